import PyProof.Rows.All
import Wide.All
import OpenK.AllK
import Wide.FinOn
import HandS.ForMost
import HandS.Style
import HandS.Wide
import HandS.TupAny
import HandS.Deep
import HandS.Zip
import HandS.Conv
import KE.KeyNested
import HandS.HeadHook1
import KE.KDictKeyed
import HandS.Defaults
import HandS.IsInst
import KE.KTupSum
import KE.KStateDown
import Lean
import HandS.NoneIn
import HandS.Iter
import HandS.Head0
import HandS.Head1
import HandS.Head2
import HandS.HeadEnd
import HandS.HeadHook2
import HandS.TupSets
import KE.SortData
import KE.KDictCopyH
import PyProof.TupleOfSeq
import HandS.Star
import HandS.ReCall
import KE.KIndexOf
import KE.GoesEnum
import KE.DataMinMax
import HandS.TupMul
import HandS.Text
import PyProof.ReprLen
import HandS.HeadHook3
import HandS.HeadHook4
import PySem.Challenge.RW_whoeverbegins_k52_whole_boards_by_all_la
set_option Elab.async false
set_option linter.all false
set_option maxRecDepth 100000
set_option autoImplicit false
/-! The data layer, 1: values as data, a store of mutable objects, how they lie in the abstract heap. -/
noncomputable section
namespace DL
open PySem PySem.Spec PyProof.Rows L2

/-- a proposition as a Bool that nothing evaluates: a bound must never be computed by the kernel -/
def says (p : Prop) : Bool := @decide p (Classical.propDecidable p)
theorem says_iff {p : Prop} : says p = true ↔ p := by unfold says; exact @decide_eq_true_iff p (Classical.propDecidable p)
theorem says_true {p : Prop} (h : p) : says p = true := says_iff.mpr h
theorem says_of {p : Prop} (h : says p = true) : p := says_iff.mp h
abbrev D := PyData
/-- what a name may hold: data that nobody changes; the n-th mutable object; a constant tuple of the top; the script; a raw value; a dict that nobody changes any more -/
inductive W where
  | d (x : D) | loc (n : Nat) | ct (xs : List D) | sc (ns : List Int) | v (x : V) | kd (b : Bool) (kvs : List (Key × D)) | td (b : Bool) (kvs : List (List Key × D)) | ft (xs : List D)
/-- what an attribute of an instance may hold: data, the n-th mutable object -/
inductive FV where
  | d (x : D) | loc (n : Nat)
/-- mutable objects: a list; dicts by ints and texts, by tuples of these, by nested tuples; an instance of the class C; none any more -/
inductive O where
  | lst (xs : List D) | dK (kvs : List (Key × D)) | dT (kvs : List (List Key × D)) | dN (kvs : List (D × D)) | ins (C : Str) (fs : List (Str × FV)) | dead
def FV.refs : FV → List Nat
  | .loc n => [n]
  | .d _ => []
def refsF : List (Str × FV) → List Nat
  | [] => []
  | f :: fs => f.2.refs ++ refsF fs
/-- which objects it holds -/
def O.refs : O → List Nat
  | .ins _ fs => refsF fs
  | _ => []
/-- the written part, the world -/
structure KW where
  k : PySem.W.Frag
  w : World
abbrev kwOf (X : Cx) : KW := ⟨X.K, X.w⟩
abbrev Sto := List O
/-- where the mutable objects lie; what else no data may lie at -/
structure Rho where
  l : List (Option Addr)
  b : List Addr
def Rho.Fr (ρ : Rho) (a : Addr) : Prop := some a ∉ ρ.l ∧ a ∉ ρ.b
def Rho.add (ρ : Rho) (p : Addr) : Rho := ⟨ρ.l ++ [some p], ρ.b⟩
def Rho.kill (ρ : Rho) (i : Nat) : Rho := ⟨ρ.l.set i none, ρ.b⟩
def Rho.cut (ρ : Rho) (n : Nat) : Rho := ⟨ρ.l.take n, ρ.b⟩
def Rho.pick (ρ : Rho) (n k : Nat) : Rho := ⟨ρ.l.take n ++ (ρ.l[k]?).toList, ρ.b⟩
def Rho.block (ρ : Rho) (a : Addr) : Rho := ⟨ρ.l, a :: ρ.b⟩
abbrev Env := List (Option W)

mutual
inductive Rep (ρ : Rho) (H : Hp) : D → V → Prop
  | non : Rep ρ H .none .non
  | bl (b : Bool) : Rep ρ H (.bool b) (.bl b)
  | int (i : Int) : Rep ρ H (.int i) (.int i)
  | str (x : Str) : Rep ρ H (.str x) (.str x)
  | tup {a : Addr} {ds : List D} {vs : List V} : H a = some (.tup vs) → ρ.Fr a → RepL ρ H ds vs → Rep ρ H (.tuple ds) (.ref a)
  | lst {a : Addr} {ds : List D} {vs : List V} : H a = some (.lst vs) → ρ.Fr a → RepL ρ H ds vs → Rep ρ H (.list ds) (.ref a)
inductive RepL (ρ : Rho) (H : Hp) : List D → List V → Prop
  | nil : RepL ρ H [] []
  | cons {d : D} {v : V} {ds : List D} {vs : List V} : Rep ρ H d v → RepL ρ H ds vs → RepL ρ H (d :: ds) (v :: vs)
end

/-- flat data -/
inductive Flat : D → V → Prop
  | non : Flat .none .non
  | bl (b : Bool) : Flat (.bool b) (.bl b)
  | int (i : Int) : Flat (.int i) (.int i)
  | str (x : Str) : Flat (.str x) (.str x)
theorem Flat.rep {ρ : Rho} {H : Hp} {d : D} {v : V} (f : Flat d v) : Rep ρ H d v := by
  cases f
  · exact .non
  · exact .bl _
  · exact .int _
  · exact .str _
inductive FlatL : List D → List V → Prop
  | nil : FlatL [] []
  | cons {d : D} {v : V} {ds : List D} {vs : List V} : Flat d v → FlatL ds vs → FlatL (d :: ds) (v :: vs)
theorem FlatL.rep {ρ : Rho} {H : Hp} {ds : List D} {vs : List V} (f : FlatL ds vs) : RepL ρ H ds vs := by
  induction f with
  | nil => exact .nil
  | cons a _ ih => exact .cons a.rep ih

/-- an object of the written part, a list -/
def KL (K : PySem.W.Frag) (a : Addr) (xs : List V) : Prop :=
  ∃ (o : Obj) (its : Array Value) (n : Nat), K.lookup a = some o ∧ o.cls = .type "list" ∧ o.dict = none ∧ o.data = .seq its n ∧ its.size ≤ sizeLine ∧ Vals xs its.toList

inductive RepKV {κ : Type} (ρ : Rho) (H : Hp) : List (κ × D) → List (κ × V) → Prop
  | nil : RepKV ρ H [] []
  | cons {k : κ} {d : D} {v : V} {r : List (κ × D)} {s : List (κ × V)} : Rep ρ H d v → RepKV ρ H r s → RepKV ρ H ((k, d) :: r) ((k, v) :: s)

mutual
/-- data that may be a key: none, an int, a text, a tuple of such -/
def nkey : D → Option NestedKey
  | .none => some .none
  | .int i => some (.num i)
  | .str x => some (.text x)
  | .tuple xs => (nkeys xs).map .tup
  | _ => none
def nkeys : List D → Option (List NestedKey)
  | [] => some []
  | x :: xs => (nkey x).bind fun k => (nkeys xs).map fun ks => k :: ks
end
/-- .. of a dict: a tuple, not too deep -/
def tkey (d : D) : Option NestedKey := match d with
  | .tuple xs => (nkeys xs).bind fun ks => if decide ((NestedKey.tup ks).depth ≤ 8) = true then some (.tup ks) else none
  | _ => none
/-- the dict at a, as it stands -/
def DictE (a : Addr) (es : List DictEntry) : HO := .ext fun h => ∃ o ep, h.get? a = some o ∧ o.ExactDict ∧ o.data = .dict es.toArray ep
def entN (w : World) (x : NestedKey × Addr × Value) : DictEntry := ⟨x.1.hash w, .ref x.2.1, x.2.2⟩
inductive RepN (ρ : Rho) (H : Hp) : List (D × D) → List (NestedKey × Addr × Value) → Prop
  | nil : RepN ρ H [] []
  | cons {kd d : D} {k : NestedKey} {b : Addr} {u : Value} {v : V} {r : List (D × D)} {s : List (NestedKey × Addr × Value)} : tkey kd = some k → Rep ρ H kd (.ref b) → Rep ρ H d v → RelV v u → RepN ρ H r s → RepN ρ H ((kd, d) :: r) ((k, b, u) :: s)
/-- the n-th mutable object -/
def LocR (ρ : Rho) (i : Nat) (v : V) : Prop := i < ρ.l.length ∧ ∀ a, ρ.l[i]? = some (some a) → v = .ref a
inductive RepF (ρ : Rho) (H : Hp) : List (Str × FV) → List (Str × V) → Prop
  | nil : RepF ρ H [] []
  | d {x : Str} {d : D} {v : V} {r : List (Str × FV)} {s : List (Str × V)} : Rep ρ H d v → RepF ρ H r s → RepF ρ H ((x, .d d) :: r) ((x, v) :: s)
  | l {x : Str} {n : Nat} {v : V} {r : List (Str × FV)} {s : List (Str × V)} : LocR ρ n v → RepF ρ H r s → RepF ρ H ((x, .loc n) :: r) ((x, v) :: s)
def RelW (K : KW) (ρ : Rho) (H : Hp) : W → V → Prop
  | .d x, v => Rep ρ H x v
  | .loc i, v => i < ρ.l.length ∧ ∀ a, ρ.l[i]? = some (some a) → v = .ref a
  | .ct xs, v => ∃ a vs, v = .ref a ∧ (∀ H', SqT K.k H' a vs) ∧ FlatL xs vs
  | .sc ns, v => ∃ a, v = .ref a ∧ ((∃ o, H a = some (.frz o (.lst (ns.map V.int))) ∧ ρ.Fr a) ∨ KL K.k a (ns.map V.int))
  | .v x, v => v = x
  | .kd b kvs, v => ∃ a us, v = .ref a ∧ ρ.Fr a ∧ Rd H a (.dK us) ∧ (b = true → ∃ o, H a = some (.frz o (.dK us))) ∧ RepKV ρ H kvs us
  | .td b kvs, v => ∃ a us, v = .ref a ∧ ρ.Fr a ∧ Rd H a (.dT us) ∧ (b = true → ∃ o, H a = some (.frz o (.dT us))) ∧ RepKV ρ H kvs us
  | .ft xs, v => ∃ a o vs, v = .ref a ∧ ρ.Fr a ∧ H a = some (.frz o (.tup vs)) ∧ o.cls = .type "tuple" ∧ o.dict = none ∧ RepL ρ H xs vs

structure RelE (K : KW) (ρ : Rho) (H : Hp) (σd : Env) (σ : L2.St) : Prop where
  len : σd.length = σ.length
  get : ∀ (i : Nat) (w : W), σd[i]? = some (some w) → ∃ v, σ[i]? = some (some v) ∧ RelW K ρ H w v

def ORel (K : KW) (ρ : Rho) (H : Hp) (a : Addr) : O → Prop
  | .lst ds => ∃ vs, H a = some (.lst vs) ∧ RepL ρ H ds vs
  | .dK kvs => ∃ us, H a = some (.dK us) ∧ RepKV ρ H kvs us
  | .dT kvs => ∃ us, H a = some (.dT us) ∧ RepKV ρ H kvs us
  | .dN kvs => ∃ xs, H a = some (DictE a (xs.map (entN K.w))) ∧ (a == sysModules) = false ∧ (xs.map (·.1)).Nodup ∧ RepN ρ H kvs xs
  | .ins C fs => ∃ dx vs, H a = some (.ins (He.ga K.k C) dx vs) ∧ RepF ρ H fs vs
  | .dead => False

structure SRel (K : KW) (ρ : Rho) (H : Hp) (S : Sto) : Prop where
  len : ρ.l.length = S.length
  obj : ∀ (i : Nat) (a : Addr), ρ.l[i]? = some (some a) → ∃ o, S[i]? = some o ∧ ORel K ρ H a o
  inj : ∀ (i j : Nat) (a : Addr), ρ.l[i]? = some (some a) → ρ.l[j]? = some (some a) → i = j
  live : ∀ (i : Nat) (o : O), S[i]? = some o → o ≠ .dead → ∃ a, ρ.l[i]? = some (some a)
  blk : ∀ a, a ∈ ρ.b → (∃ xs, H a = some (.lst xs)) ∧ some a ∉ ρ.l

/-- what is tracked and not mutable stays; locations stay or die -/
structure Ext (ρ : Rho) (H : Hp) (ρ' : Rho) (H' : Hp) : Prop where
  keep : ∀ (a : Addr) (o : HO), H a = some o → some a ∉ ρ.l → H' a = some o ∧ some a ∉ ρ'.l
  loc : ∀ (i : Nat) (a : Addr), i < ρ.l.length → ρ'.l[i]? = some (some a) → ρ.l[i]? = some (some a)
  len : ρ.l.length ≤ ρ'.l.length
  dom : ∀ a : Addr, H' a = none → H a = none
  bnew : ∀ a, a ∈ ρ'.b → a ∈ ρ.b ∨ H a = none
  bsub : ∀ a, a ∈ ρ.b → a ∈ ρ'.b

variable {K : KW} {ρ ρ' ρ'' : Rho} {H H' H'' : Hp} {S S' : Sto}

theorem Ext.refl : Ext ρ H ρ H := ⟨fun _ _ h n => ⟨h, n⟩, fun _ _ _ h => h, Nat.le_refl _, fun _ h => h, fun _ h => .inl h, fun _ h => h⟩
theorem Ext.trans (e : Ext ρ H ρ' H') (f : Ext ρ' H' ρ'' H'') : Ext ρ H ρ'' H'' :=
  ⟨fun a o h n => let ⟨h1, n1⟩ := e.keep a o h n; f.keep a o h1 n1, fun i a hi h => e.loc i a hi (f.loc i a (Nat.lt_of_lt_of_le hi e.len) h), Nat.le_trans e.len f.len, fun a h => e.dom a (f.dom a h), fun a h => (f.bnew a h).elim (e.bnew a) fun z => .inr (e.dom a z), fun a h => f.bsub a (e.bsub a h)⟩
theorem Ext.at (e : Ext ρ H ρ' H') {a : Addr} {o : HO} (h : H a = some o) (n : ρ.Fr a) : H' a = some o ∧ ρ'.Fr a :=
  ⟨(e.keep a o h n.1).1, (e.keep a o h n.1).2, fun z => (e.bnew a z).elim n.2 fun q => by rw [h] at q; cases q⟩

mutual
theorem Rep.ext (e : Ext ρ H ρ' H') : ∀ {d : D} {v : V}, Rep ρ H d v → Rep ρ' H' d v
  | _, _, .non => .non
  | _, _, .bl b => .bl b
  | _, _, .int i => .int i
  | _, _, .str x => .str x
  | _, _, .tup h n r => .tup (e.at h n).1 (e.at h n).2 (RepL.ext e r)
  | _, _, .lst h n r => .lst (e.at h n).1 (e.at h n).2 (RepL.ext e r)
theorem RepL.ext (e : Ext ρ H ρ' H') : ∀ {ds : List D} {vs : List V}, RepL ρ H ds vs → RepL ρ' H' ds vs
  | _, _, .nil => .nil
  | _, _, .cons r t => .cons (Rep.ext e r) (RepL.ext e t)
end
theorem RepKV.ext {κ : Type} (e : Ext ρ H ρ' H') {kvs : List (κ × D)} {us : List (κ × V)} (h : RepKV ρ H kvs us) : RepKV ρ' H' kvs us := by
  induction h with
  | nil => exact .nil
  | cons r _ ih => exact .cons (r.ext e) ih
theorem LocR.ext (e : Ext ρ H ρ' H') {i : Nat} {v : V} (h : LocR ρ i v) : LocR ρ' i v := ⟨Nat.lt_of_lt_of_le h.1 e.len, fun a ha => h.2 a (e.loc i a h.1 ha)⟩
theorem RepN.ext (e : Ext ρ H ρ' H') {kvs : List (D × D)} {xs : List (NestedKey × Addr × Value)} (h : RepN ρ H kvs xs) : RepN ρ' H' kvs xs := by
  induction h with
  | nil => exact .nil
  | cons a b c d _ ih => exact .cons a (b.ext e) (c.ext e) d ih
theorem RepF.ext (e : Ext ρ H ρ' H') {fs : List (Str × FV)} {vs : List (Str × V)} (h : RepF ρ H fs vs) : RepF ρ' H' fs vs := by
  induction h with
  | nil => exact .nil
  | d r _ ih => exact .d (r.ext e) ih
  | l r _ ih => exact .l (r.ext e) ih
theorem Ext.rd (e : Ext ρ H ρ' H') {a : Addr} {u : HO} (h : Rd H a u) (n : ρ.Fr a) : Rd H' a u ∧ ρ'.Fr a := by
  rcases h with h | ⟨o, h⟩
  · exact ⟨.inl (e.at h n).1, (e.at h n).2⟩
  · exact ⟨.inr ⟨o, (e.at h n).1⟩, (e.at h n).2⟩
theorem RelW.ext (e : Ext ρ H ρ' H') : ∀ {w : W} {v : V}, RelW K ρ H w v → RelW K ρ' H' w v
  | .d _, _, h => Rep.ext e h
  | .loc i, _, ⟨h1, h2⟩ => ⟨Nat.lt_of_lt_of_le h1 e.len, fun a ha => h2 a (e.loc i a h1 ha)⟩
  | .ct _, _, h => h
  | .sc _, _, ⟨a, e1, h⟩ => ⟨a, e1, h.imp (fun ⟨o, h1, h2⟩ => ⟨o, e.at h1 h2⟩) id⟩
  | .v _, _, h => h
  | .kd _ _, _, ⟨a, us, e1, n, h1, hb, h2⟩ => ⟨a, us, e1, (e.rd h1 n).2, (e.rd h1 n).1, fun z => (hb z).imp fun o q => (e.at q n).1, h2.ext e⟩
  | .td _ _, _, ⟨a, us, e1, n, h1, hb, h2⟩ => ⟨a, us, e1, (e.rd h1 n).2, (e.rd h1 n).1, fun z => (hb z).imp fun o q => (e.at q n).1, h2.ext e⟩
  | .ft _, _, ⟨a, o, vs, e1, n, h1, c1, c2, h2⟩ => ⟨a, o, vs, e1, (e.at h1 n).2, (e.at h1 n).1, c1, c2, h2.ext e⟩
theorem RelE.ext {σd : Env} {σ : L2.St} (e : Ext ρ H ρ' H') (h : RelE K ρ H σd σ) : RelE K ρ' H' σd σ :=
  ⟨h.len, fun i w hi => let ⟨v, h1, h2⟩ := h.get i w hi; ⟨v, h1, h2.ext e⟩⟩

/-! lists of data -/
theorem RepL.length {ds : List D} {vs : List V} (h : RepL ρ H ds vs) : ds.length = vs.length := by
  induction ds generalizing vs with
  | nil => cases h; rfl
  | cons d ds ih => cases h with | cons _ t => simp [ih t]
theorem RepL.get {ds : List D} {vs : List V} (h : RepL ρ H ds vs) {i : Nat} {d : D} (e : ds[i]? = some d) : ∃ v, vs[i]? = some v ∧ Rep ρ H d v := by
  induction ds generalizing vs i with
  | nil => simp at e
  | cons x ds ih =>
    cases h with
    | cons r t =>
      cases i with
      | zero => simp at e; subst e; exact ⟨_, rfl, r⟩
      | succ i => simp at e; simpa using ih t e
theorem RepL.getV {ds : List D} {vs : List V} (h : RepL ρ H ds vs) {i : Nat} {v : V} (e : vs[i]? = some v) : ∃ d, ds[i]? = some d ∧ Rep ρ H d v := by
  induction ds generalizing vs i with
  | nil => cases h; simp at e
  | cons x ds ih =>
    cases h with
    | cons r t =>
      cases i with
      | zero => simp at e; subst e; exact ⟨_, rfl, r⟩
      | succ i => simp at e; simpa using ih t e
theorem RepL.append {ds es : List D} {vs us : List V} (h : RepL ρ H ds vs) (g : RepL ρ H es us) : RepL ρ H (ds ++ es) (vs ++ us) := by
  induction ds generalizing vs with
  | nil => cases h; exact g
  | cons d ds ih => cases h with | cons r t => exact .cons r (ih t)
theorem RepL.take {ds : List D} {vs : List V} (n : Nat) (h : RepL ρ H ds vs) : RepL ρ H (ds.take n) (vs.take n) := by
  induction ds generalizing vs n with
  | nil => cases h; simp; exact .nil
  | cons d ds ih =>
    cases h with
    | cons r t =>
      cases n with
      | zero => exact .nil
      | succ n => exact .cons r (ih n t)
theorem RepL.drop {ds : List D} {vs : List V} (n : Nat) (h : RepL ρ H ds vs) : RepL ρ H (ds.drop n) (vs.drop n) := by
  induction ds generalizing vs n with
  | nil => cases h; simp; exact .nil
  | cons d ds ih =>
    cases h with
    | cons r t =>
      cases n with
      | zero => exact .cons r t
      | succ n => exact ih n t
theorem RepL.reverse {ds : List D} {vs : List V} (h : RepL ρ H ds vs) : RepL ρ H ds.reverse vs.reverse := by
  induction ds generalizing vs with
  | nil => cases h; exact .nil
  | cons d ds ih =>
    cases h with
    | cons r t =>
      rw [List.reverse_cons, List.reverse_cons]
      exact (ih t).append (.cons r .nil)
theorem RepL.set {ds : List D} {vs : List V} (n : Nat) {d : D} {v : V} (h : RepL ρ H ds vs) (r0 : Rep ρ H d v) : RepL ρ H (ds.set n d) (vs.set n v) := by
  induction ds generalizing vs n with
  | nil => cases h; exact .nil
  | cons d ds ih =>
    cases h with
    | cons r t =>
      cases n with
      | zero => exact .cons r0 t
      | succ n => exact .cons r (ih n t)
theorem RepL.ints {ns : List Int} {vs : List V} (h : RepL ρ H (ns.map PyData.int) vs) : vs = ns.map V.int := by
  induction ns generalizing vs with
  | nil => cases h; rfl
  | cons n ns ih =>
    cases h with
    | cons r t => cases r; rw [ih t]; rfl
theorem RepL.bools {ns : List Bool} {vs : List V} (h : RepL ρ H (ns.map PyData.bool) vs) : vs = ns.map V.bl := by
  induction ns generalizing vs with
  | nil => cases h; rfl
  | cons n ns ih =>
    cases h with
    | cons r t => cases r; rw [ih t]; rfl
theorem RepL.ofInts : ∀ ns : List Int, RepL ρ H (ns.map PyData.int) (ns.map V.int)
  | [] => .nil
  | n :: ns => .cons (.int n) (RepL.ofInts ns)

/-! the heap grows -/
def Gr (H H' : Hp) : Prop := ∀ a o, H a = some o → H' a = some o
theorem Gr.refl : Gr H H := fun _ _ h => h
theorem Gr.trans (h : Gr H H') (g : Gr H' H'') : Gr H H'' := fun a o e => g a o (h a o e)
theorem Gr.new {p : Addr} {o : HO} (h : H p = none) : Gr H (upd H p o) := fun a u e => by
  rw [upd_ne (ne_of_none e h)]; exact e
theorem SRel.mem (s : SRel K ρ H S) {a : Addr} (h : some a ∈ ρ.l) : ∃ o, H a = some o := by
  obtain ⟨i, e⟩ := List.mem_iff_getElem?.mp h
  obtain ⟨o, _, r⟩ := s.obj i a e
  cases o with
  | lst ds => obtain ⟨vs, h1, _⟩ := r; exact ⟨_, h1⟩
  | dK ds => obtain ⟨vs, h1, _⟩ := r; exact ⟨_, h1⟩
  | dT ds => obtain ⟨vs, h1, _⟩ := r; exact ⟨_, h1⟩
  | dN ds => obtain ⟨vs, h1, _⟩ := r; exact ⟨_, h1⟩
  | ins C fs => obtain ⟨dx, vs, h1, _⟩ := r; exact ⟨_, h1⟩
  | dead => exact r.elim
theorem SRel.freshl (s : SRel K ρ H S) {p : Addr} (h : H p = none) : some p ∉ ρ.l := fun z => by
  obtain ⟨o, e⟩ := s.mem z
  rw [h] at e; cases e
theorem SRel.freshb (s : SRel K ρ H S) {p : Addr} (h : H p = none) : p ∉ ρ.b := fun z => by
  obtain ⟨o, e⟩ := (s.blk p z).1
  rw [h] at e; cases e
theorem SRel.fresh (s : SRel K ρ H S) {p : Addr} (h : H p = none) : ρ.Fr p := ⟨s.freshl h, s.freshb h⟩
theorem none_of_gr (g : Gr H H') (a : Addr) (h : H' a = none) : H a = none := by
  cases e : H a with
  | none => rfl
  | some o => rw [g a o e] at h; cases h
theorem none_of_upd {p : Addr} {o : HO} (a : Addr) (h : upd H p o a = none) : H a = none := by
  by_cases e : a = p
  · subst e; rw [upd_same] at h; cases h
  · rwa [upd_ne e] at h
theorem Ext.gr (g : Gr H H') : Ext ρ H ρ H' := ⟨fun a o h n => ⟨g a o h, n⟩, fun _ _ _ h => h, Nat.le_refl _, none_of_gr g, fun _ h => .inl h, fun _ h => h⟩
theorem ORel.gr (g : Gr H H') {a : Addr} : ∀ {o : O}, ORel K ρ H a o → ORel K ρ H' a o
  | .lst _, ⟨vs, h, r⟩ => ⟨vs, g _ _ h, r.ext (Ext.gr g)⟩
  | .dK _, ⟨vs, h, r⟩ => ⟨vs, g _ _ h, r.ext (Ext.gr g)⟩
  | .dT _, ⟨vs, h, r⟩ => ⟨vs, g _ _ h, r.ext (Ext.gr g)⟩
  | .dN _, ⟨vs, h, h2, h3, r⟩ => ⟨vs, g _ _ h, h2, h3, r.ext (Ext.gr g)⟩
  | .ins _ _, ⟨dx, vs, h, r⟩ => ⟨dx, vs, g _ _ h, r.ext (Ext.gr g)⟩
  | .dead, h => h
theorem SRel.gr (g : Gr H H') (s : SRel K ρ H S) : SRel K ρ H' S :=
  ⟨s.len, fun i a e => let ⟨o, h1, h2⟩ := s.obj i a e; ⟨o, h1, h2.gr g⟩, s.inj, s.live, fun a h => ⟨let ⟨o, e⟩ := (s.blk a h).1; ⟨o, g a _ e⟩, (s.blk a h).2⟩⟩
theorem Ext.new {p : Addr} {o : HO} (h : H p = none) : Ext ρ H ρ (upd H p o) := Ext.gr (Gr.new h)
theorem SRel.new {p : Addr} {o : HO} (s : SRel K ρ H S) (h : H p = none) : SRel K ρ (upd H p o) S := s.gr (Gr.new h)

/-- the shape of a mutable object over other addresses -/
theorem ORel.ext (e : Ext ρ H ρ' H') {a : Addr} (h : H' a = H a) : ∀ {o : O}, ORel K ρ H a o → ORel K ρ' H' a o
  | .lst _, ⟨vs, h1, r⟩ => ⟨vs, h.trans h1, r.ext e⟩
  | .dK _, ⟨vs, h1, r⟩ => ⟨vs, h.trans h1, r.ext e⟩
  | .dT _, ⟨vs, h1, r⟩ => ⟨vs, h.trans h1, r.ext e⟩
  | .dN _, ⟨vs, h1, h2, h3, r⟩ => ⟨vs, h.trans h1, h2, h3, r.ext e⟩
  | .ins _ _, ⟨dx, vs, h1, r⟩ => ⟨dx, vs, h.trans h1, r.ext e⟩
  | .dead, h1 => h1

/-- a new mutable object -/
theorem add_at {l : List (Option Addr)} {p a : Addr} {k : Nat} (e : (l ++ [some p])[k]? = some (some a)) : k < l.length ∧ l[k]? = some (some a) ∨ k = l.length ∧ a = p := by
  by_cases hk : k < l.length
  · rw [List.getElem?_append_left hk] at e; exact .inl ⟨hk, e⟩
  · rw [List.getElem?_append_right (by omega)] at e
    cases q : k - l.length with
    | zero => rw [q] at e; simp at e; exact .inr ⟨by omega, e.symm⟩
    | succ n => rw [q] at e; simp at e
theorem Ext.alloc {p : Addr} {o : HO} (s : SRel K ρ H S) (h : H p = none) : Ext ρ H (ρ.add p) (upd H p o) where
  keep := fun a u e n => by
    have hne : a ≠ p := ne_of_none e h
    refine ⟨by rw [upd_ne hne]; exact e, fun z => ?_⟩
    rcases List.mem_append.mp z with z | z
    · exact n z
    · simp at z; exact hne z
  loc := fun i a hi e => by
    have e' : (ρ.l ++ [some p])[i]? = some (some a) := e
    rwa [List.getElem?_append_left hi] at e'
  len := by simp [Rho.add]
  dom := none_of_upd
  bnew := fun _ h => .inl h
  bsub := fun _ h => h
theorem SRel.alloc {p : Addr} {ho : HO} {o : O} (s : SRel K ρ H S) (h : H p = none) (r : ORel K (ρ.add p) (upd H p ho) p o) : SRel K (ρ.add p) (upd H p ho) (S ++ [o]) where
  len := by simp [s.len, Rho.add]
  obj := fun i a e => by
    rcases add_at e with ⟨hi, e'⟩ | ⟨hi, rfl⟩
    · obtain ⟨u, h1, h2⟩ := s.obj i a e'
      refine ⟨u, by rw [List.getElem?_append_left (by rw [← s.len]; exact hi)]; exact h1, ?_⟩
      have hne : a ≠ p := fun z => s.freshl h (z ▸ List.mem_of_getElem? e')
      exact h2.ext (Ext.alloc s h) (upd_ne hne)
    · refine ⟨o, ?_, r⟩
      rw [hi, s.len, List.getElem?_append_right (Nat.le_refl _)]
      simp
  inj := fun i j a e1 e2 => by
    rcases add_at e1 with ⟨h1, q1⟩ | ⟨h1, q1⟩ <;> rcases add_at e2 with ⟨h2, q2⟩ | ⟨h2, q2⟩
    · exact s.inj i j a q1 q2
    · subst q2; exact absurd (List.mem_of_getElem? q1) (s.freshl h)
    · subst q1; exact absurd (List.mem_of_getElem? q2) (s.freshl h)
    · omega
  live := fun i u e hu => by
    by_cases hi : i < S.length
    · rw [List.getElem?_append_left hi] at e
      obtain ⟨a, q⟩ := s.live i u e hu
      refine ⟨a, ?_⟩
      show (ρ.l ++ [some p])[i]? = _
      rw [List.getElem?_append_left (by rw [s.len]; exact hi)]
      exact q
    · rw [List.getElem?_append_right (by omega)] at e
      have : i - S.length = 0 := by
        cases q : i - S.length with
        | zero => rfl
        | succ n => rw [q] at e; simp at e
      refine ⟨p, ?_⟩
      show (ρ.l ++ [some p])[i]? = _
      rw [List.getElem?_append_right (by rw [s.len]; omega), s.len, this]
      rfl
  blk := fun a ha => by
    obtain ⟨⟨u, e⟩, n⟩ := s.blk a ha
    have hne : a ≠ p := ne_of_none e h
    refine ⟨⟨u, by rw [upd_ne hne]; exact e⟩, fun z => ?_⟩
    rcases List.mem_append.mp z with z | z
    · exact n z
    · simp at z; exact hne z

/-- a mutable object written -/
theorem Ext.write {a : Addr} {ho : HO} (h : some a ∈ ρ.l) : Ext ρ H ρ (upd H a ho) where
  keep := fun b u e n => by
    have hne : b ≠ a := fun z => n (z ▸ h)
    exact ⟨by rw [upd_ne hne]; exact e, n⟩
  loc := fun _ _ _ e => e
  len := Nat.le_refl _
  dom := none_of_upd
  bnew := fun _ h => .inl h
  bsub := fun _ h => h
theorem SRel.write {i : Nat} {a : Addr} {ho : HO} {o : O} (s : SRel K ρ H S) (hi : ρ.l[i]? = some (some a)) (r : ORel K ρ (upd H a ho) a o) : SRel K ρ (upd H a ho) (S.set i o) where
  len := by simp [s.len]
  obj := fun j b e => by
    by_cases hj : j = i
    · subst hj
      rw [hi] at e; cases e
      have hlt : j < S.length := by rw [← s.len]; exact (List.getElem?_eq_some_iff.mp hi).1
      exact ⟨o, by rw [List.getElem?_set_self hlt], r⟩
    · obtain ⟨u, h1, h2⟩ := s.obj j b e
      have hne : b ≠ a := fun z => hj (s.inj j i b e (z ▸ hi))
      refine ⟨u, by rw [List.getElem?_set_ne (Ne.symm hj)]; exact h1, h2.ext (Ext.write (List.mem_of_getElem? hi)) (upd_ne hne)⟩
  inj := s.inj
  live := fun j u e hu => by
    by_cases hj : j = i
    · subst hj; exact ⟨a, hi⟩
    · rw [List.getElem?_set_ne (Ne.symm hj)] at e
      exact s.live j u e hu
  blk := fun b hb => by
    obtain ⟨⟨u, e⟩, n⟩ := s.blk b hb
    have hne : b ≠ a := fun z => n (z ▸ List.mem_of_getElem? hi)
    exact ⟨⟨u, by rw [upd_ne hne]; exact e⟩, n⟩

/-- a mutable list is frozen -/
theorem mem_kill {l : List (Option Addr)} {i : Nat} {b : Addr} (z : some b ∈ l.set i none) : some b ∈ l := by
  obtain ⟨j, hj⟩ := List.mem_iff_getElem?.mp z
  rw [List.getElem?_set] at hj
  split at hj
  · split at hj <;> cases hj
  · exact List.mem_of_getElem? hj
theorem kill_at {l : List (Option Addr)} {i j : Nat} {b : Addr} (e : (l.set i none)[j]? = some (some b)) : i ≠ j ∧ l[j]? = some (some b) := by
  rw [List.getElem?_set] at e
  split at e
  · split at e <;> cases e
  · rename_i h; exact ⟨h, e⟩
theorem Ext.freeze {i : Nat} : Ext ρ H (ρ.kill i) H where
  keep := fun b u e n => ⟨e, fun z => n (mem_kill z)⟩
  loc := fun j b _ e => (kill_at e).2
  len := by simp [Rho.kill]
  dom := fun _ h => h
  bnew := fun _ h => .inl h
  bsub := fun _ h => h
theorem SRel.freeze {i : Nat} (s : SRel K ρ H S) : SRel K (ρ.kill i) H (S.set i .dead) where
  len := by simp [s.len, Rho.kill]
  obj := fun j b e => by
    obtain ⟨hj, e'⟩ := kill_at e
    obtain ⟨u, h1, h2⟩ := s.obj j b e'
    exact ⟨u, by rw [List.getElem?_set_ne hj]; exact h1, h2.ext Ext.freeze rfl⟩
  inj := fun j k b e1 e2 => s.inj j k b (kill_at e1).2 (kill_at e2).2
  live := fun j u e hu => by
    rw [List.getElem?_set] at e
    split at e
    · split at e
      · cases e; exact absurd rfl hu
      · cases e
    · rename_i hj
      obtain ⟨a, q⟩ := s.live j u e hu
      refine ⟨a, ?_⟩
      show (ρ.l.set i none)[j]? = _
      rw [List.getElem?_set_ne hj]
      exact q
  blk := fun b hb => ⟨(s.blk b hb).1, fun z => (s.blk b hb).2 (mem_kill z)⟩
theorem SRel.notin {i : Nat} {a : Addr} (s : SRel K ρ H S) (hi : ρ.l[i]? = some (some a)) : (ρ.kill i).Fr a := ⟨fun z => by
  obtain ⟨j, hj⟩ := List.mem_iff_getElem?.mp z
  obtain ⟨h1, h2⟩ := kill_at hj
  exact h1 (s.inj i j a hi h2), fun z => (s.blk a z).2 (List.mem_of_getElem? hi)⟩

/-- data over fewer, over other blocked addresses -/
theorem Rep.sub {ρ' : Rho} (hk : ∀ a, ρ.Fr a → ρ'.Fr a) {d : D} {v : V} (r : Rep ρ H d v) : Rep ρ' H d v :=
  Rep.rec (motive_1 := fun d v _ => Rep ρ' H d v) (motive_2 := fun ds vs _ => RepL ρ' H ds vs) .non .bl .int .str
      (fun h n _ ih => .tup h (hk _ n) ih) (fun h n _ ih => .lst h (hk _ n) ih) .nil (fun _ _ h1 h2 => .cons h1 h2) r
theorem RepL.sub {ρ' : Rho} (hk : ∀ a, ρ.Fr a → ρ'.Fr a) {ds : List D} {vs : List V} (r : RepL ρ H ds vs) : RepL ρ' H ds vs := by
  induction ds generalizing vs with
  | nil => cases r; exact .nil
  | cons d ds ih => cases r with | cons a b => exact .cons (a.sub hk) (ih b)
theorem RepKV.sub {κ : Type} {ρ' : Rho} (hk : ∀ a, ρ.Fr a → ρ'.Fr a) {kvs : List (κ × D)} {us : List (κ × V)} (h : RepKV ρ H kvs us) : RepKV ρ' H kvs us := by
  induction h with
  | nil => exact .nil
  | cons r _ ih => exact .cons (r.sub hk) ih
theorem RepN.sub {ρ' : Rho} (hk : ∀ a, ρ.Fr a → ρ'.Fr a) {kvs : List (D × D)} {xs : List (NestedKey × Addr × Value)} (h : RepN ρ H kvs xs) : RepN ρ' H kvs xs := by
  induction h with
  | nil => exact .nil
  | cons a b c d _ ih => exact .cons a (b.sub hk) (c.sub hk) d ih
theorem RepF.sub {ρ' : Rho} (hk : ∀ a, ρ.Fr a → ρ'.Fr a) {fs : List (Str × FV)} {vs : List (Str × V)} (h : RepF ρ H fs vs) (hl : ∀ i ∈ refsF fs, ∀ v, LocR ρ i v → LocR ρ' i v) : RepF ρ' H fs vs := by
  induction h with
  | nil => exact .nil
  | d r _ ih => exact .d (r.sub hk) (ih fun i hi => hl i (by simpa [refsF, FV.refs] using hi))
  | l r _ ih => exact .l (hl _ (by simp [refsF, FV.refs]) _ r) (ih fun i hi => hl i (by simp [refsF, FV.refs, hi]))
theorem ORel.sub {ρ' : Rho} (hk : ∀ a, ρ.Fr a → ρ'.Fr a) {a : Addr} : ∀ {o : O}, (∀ i ∈ o.refs, ∀ v, LocR ρ i v → LocR ρ' i v) → ORel K ρ H a o → ORel K ρ' H a o
  | .lst _, _, ⟨vs, h1, r⟩ => ⟨vs, h1, r.sub hk⟩
  | .dK _, _, ⟨vs, h1, r⟩ => ⟨vs, h1, r.sub hk⟩
  | .dT _, _, ⟨vs, h1, r⟩ => ⟨vs, h1, r.sub hk⟩
  | .dN _, _, ⟨vs, h1, h2, h3, r⟩ => ⟨vs, h1, h2, h3, r.sub hk⟩
  | .ins _ _, hl, ⟨dx, vs, h1, r⟩ => ⟨dx, vs, h1, r.sub hk hl⟩
  | .dead, _, h1 => h1
/-- .. where the heap may be another, and what is free may shrink, as long as what stands stays free -/
theorem Rep.mv {ρ' : Rho} (hk : ∀ a o, H a = some o → ρ.Fr a → H' a = some o ∧ ρ'.Fr a) {d : D} {v : V} (r : Rep ρ H d v) : Rep ρ' H' d v :=
  Rep.rec (motive_1 := fun d v _ => Rep ρ' H' d v) (motive_2 := fun ds vs _ => RepL ρ' H' ds vs) .non .bl .int .str
      (fun h n _ ih => .tup (hk _ _ h n).1 (hk _ _ h n).2 ih) (fun h n _ ih => .lst (hk _ _ h n).1 (hk _ _ h n).2 ih) .nil (fun _ _ h1 h2 => .cons h1 h2) r
theorem RepL.mv {ρ' : Rho} (hk : ∀ a o, H a = some o → ρ.Fr a → H' a = some o ∧ ρ'.Fr a) {ds : List D} {vs : List V} (r : RepL ρ H ds vs) : RepL ρ' H' ds vs := by
  induction ds generalizing vs with
  | nil => cases r; exact .nil
  | cons d ds ih => cases r with | cons a b => exact .cons (a.mv hk) (ih b)
theorem RepKV.mv {κ : Type} {ρ' : Rho} (hk : ∀ a o, H a = some o → ρ.Fr a → H' a = some o ∧ ρ'.Fr a) {kvs : List (κ × D)} {us : List (κ × V)} (h : RepKV ρ H kvs us) : RepKV ρ' H' kvs us := by
  induction h with
  | nil => exact .nil
  | cons r _ ih => exact .cons (r.mv hk) ih
theorem RepN.mv {ρ' : Rho} (hk : ∀ a o, H a = some o → ρ.Fr a → H' a = some o ∧ ρ'.Fr a) {kvs : List (D × D)} {xs : List (NestedKey × Addr × Value)} (h : RepN ρ H kvs xs) : RepN ρ' H' kvs xs := by
  induction h with
  | nil => exact .nil
  | cons a b c d _ ih => exact .cons a (b.mv hk) (c.mv hk) d ih
theorem RepF.mv {ρ' : Rho} (hk : ∀ a o, H a = some o → ρ.Fr a → H' a = some o ∧ ρ'.Fr a) (hl : ρ'.l = ρ.l) {fs : List (Str × FV)} {vs : List (Str × V)} (h : RepF ρ H fs vs) : RepF ρ' H' fs vs := by
  induction h with
  | nil => exact .nil
  | d r _ ih => exact .d (r.mv hk) ih
  | l r _ ih => exact .l ⟨by rw [hl]; exact r.1, fun a ha => r.2 a (by rw [← hl]; exact ha)⟩ ih
theorem ORel.mv {ρ' : Rho} (hk : ∀ a o, H a = some o → ρ.Fr a → H' a = some o ∧ ρ'.Fr a) (hl : ρ'.l = ρ.l) {a : Addr} (h : H' a = H a) : ∀ {o : O}, ORel K ρ H a o → ORel K ρ' H' a o
  | .lst _, ⟨vs, h1, r⟩ => ⟨vs, h.trans h1, r.mv hk⟩
  | .dK _, ⟨vs, h1, r⟩ => ⟨vs, h.trans h1, r.mv hk⟩
  | .dT _, ⟨vs, h1, r⟩ => ⟨vs, h.trans h1, r.mv hk⟩
  | .dN _, ⟨vs, h1, h2, h3, r⟩ => ⟨vs, h.trans h1, h2, h3, r.mv hk⟩
  | .ins _ _, ⟨dx, vs, h1, r⟩ => ⟨dx, vs, h.trans h1, r.mv hk hl⟩
  | .dead, h1 => h1
theorem rd_mv {ρ' : Rho} (hk : ∀ a o, H a = some o → ρ.Fr a → H' a = some o ∧ ρ'.Fr a) {a : Addr} {u : HO} (h : Rd H a u) (n : ρ.Fr a) : Rd H' a u ∧ ρ'.Fr a := by
  rcases h with h | ⟨o, h⟩
  · exact ⟨.inl (hk _ _ h n).1, (hk _ _ h n).2⟩
  · exact ⟨.inr ⟨o, (hk _ _ h n).1⟩, (hk _ _ h n).2⟩
theorem RelW.mv {ρ' : Rho} (hk : ∀ a o, H a = some o → ρ.Fr a → H' a = some o ∧ ρ'.Fr a) (hl : ρ'.l = ρ.l) : ∀ {w : W} {v : V}, RelW K ρ H w v → RelW K ρ' H' w v
  | .d _, _, h => Rep.mv hk h
  | .loc i, _, ⟨h1, h2⟩ => ⟨by rw [hl]; exact h1, fun a ha => h2 a (by rw [← hl]; exact ha)⟩
  | .ct _, _, h => h
  | .sc _, _, ⟨a, e1, h⟩ => ⟨a, e1, h.imp (fun ⟨o, h1, h2⟩ => ⟨o, hk _ _ h1 h2⟩) id⟩
  | .v _, _, h => h
  | .kd _ _, _, ⟨a, us, e1, n, h1, hb, h2⟩ => ⟨a, us, e1, (rd_mv hk h1 n).2, (rd_mv hk h1 n).1, fun z => (hb z).imp fun o q => (hk _ _ q n).1, h2.mv hk⟩
  | .td _ _, _, ⟨a, us, e1, n, h1, hb, h2⟩ => ⟨a, us, e1, (rd_mv hk h1 n).2, (rd_mv hk h1 n).1, fun z => (hb z).imp fun o q => (hk _ _ q n).1, h2.mv hk⟩
  | .ft _, _, ⟨a, o, vs, e1, n, h1, c1, c2, h2⟩ => ⟨a, o, vs, e1, (hk _ _ h1 n).2, (hk _ _ h1 n).1, c1, c2, h2.mv hk⟩
theorem RelE.mv {ρ' : Rho} (hk : ∀ a o, H a = some o → ρ.Fr a → H' a = some o ∧ ρ'.Fr a) (hl : ρ'.l = ρ.l) {σd : Env} {σ : L2.St} (h : RelE K ρ H σd σ) : RelE K ρ' H' σd σ :=
  ⟨h.len, fun i w hi => let ⟨v, h1, h2⟩ := h.get i w hi; ⟨v, h1, h2.mv hk hl⟩⟩

/-- an address is blocked: a list that is being made -/
theorem SRel.blocked {p : Addr} {xs : List V} (s : SRel K ρ H S) (h : H p = none) : SRel K (ρ.block p) (upd H p (.lst xs)) S := by
  have hk : ∀ a u, H a = some u → ρ.Fr a → upd H p (.lst xs) a = some u ∧ (ρ.block p).Fr a := fun a u e n => by
    have hne : a ≠ p := ne_of_none e h
    exact ⟨by rw [upd_ne hne]; exact e, n.1, fun z => by
      rcases List.mem_cons.mp z with z | z
      · exact hne z
      · exact n.2 z⟩
  refine ⟨s.len, fun i a e => ?_, s.inj, s.live, fun a ha => ?_⟩
  · obtain ⟨u, h1, h2⟩ := s.obj i a e
    have hne : a ≠ p := fun z => s.freshl h (z ▸ List.mem_of_getElem? e)
    exact ⟨u, h1, h2.mv hk rfl (upd_ne hne)⟩
  · rcases List.mem_cons.mp ha with rfl | ha
    · exact ⟨⟨xs, upd_same⟩, s.freshl h⟩
    · obtain ⟨⟨u, e⟩, n⟩ := s.blk a ha
      have hne : a ≠ p := ne_of_none e h
      exact ⟨⟨u, by rw [upd_ne hne]; exact e⟩, n⟩
theorem block_mv {p : Addr} {o : HO} (h : H p = none) : ∀ a u, H a = some u → ρ.Fr a → upd H p o a = some u ∧ (ρ.block p).Fr a := fun a u e n => by
  have hne : a ≠ p := ne_of_none e h
  exact ⟨by rw [upd_ne hne]; exact e, n.1, fun z => by
    rcases List.mem_cons.mp z with z | z
    · exact hne z
    · exact n.2 z⟩
/-- what is blocked may be written -/
theorem blk_mv {p : Addr} {o : HO} (h : p ∈ ρ.b) : ∀ a u, H a = some u → ρ.Fr a → upd H p o a = some u ∧ ρ.Fr a := fun a u e n => by
  have hne : a ≠ p := fun z => n.2 (z ▸ h)
  exact ⟨by rw [upd_ne hne]; exact e, n⟩
theorem SRel.blkW {p : Addr} {xs : List V} (s : SRel K ρ H S) (h : p ∈ ρ.b) : SRel K ρ (upd H p (.lst xs)) S := by
  refine ⟨s.len, fun i a e => ?_, s.inj, s.live, fun a ha => ?_⟩
  · obtain ⟨u, h1, h2⟩ := s.obj i a e
    have hne : a ≠ p := fun z => (s.blk p h).2 (z ▸ List.mem_of_getElem? e)
    exact ⟨u, h1, h2.mv (blk_mv h) rfl (upd_ne hne)⟩
  · by_cases hne : a = p
    · subst hne; exact ⟨⟨xs, upd_same⟩, (s.blk a ha).2⟩
    · obtain ⟨⟨u, e⟩, n⟩ := s.blk a ha
      exact ⟨⟨u, by rw [upd_ne hne]; exact e⟩, n⟩
/-- .. and let go -/
theorem unblock_fr {b : List Addr} (hb : ∀ a, a ∈ b → a ∈ ρ.b) : ∀ a, ρ.Fr a → Rho.Fr ⟨ρ.l, b⟩ a := fun a n => ⟨n.1, fun z => n.2 (hb a z)⟩
theorem SRel.unblock {b : List Addr} (s : SRel K ρ H S) (hb : ∀ a, a ∈ b → a ∈ ρ.b) : SRel K ⟨ρ.l, b⟩ H S :=
  ⟨s.len, fun i a e => let ⟨o, h1, h2⟩ := s.obj i a e; ⟨o, h1, ORel.sub (unblock_fr hb) (fun _ _ _ h => h) h2⟩, s.inj, s.live, fun a ha => s.blk a (hb a ha)⟩

/-- the locations from n on are forgotten -/
theorem Ext.cut {n : Nat} (e : Ext ρ H ρ' H') (hn : ρ.l.length ≤ n) : Ext ρ H (ρ'.cut n) H' where
  keep := fun a o h k => ⟨(e.keep a o h k).1, fun z => (e.keep a o h k).2 (List.mem_of_mem_take z)⟩
  loc := fun i a hi q => by
    have q' : (ρ'.l.take n)[i]? = some (some a) := q
    rw [List.getElem?_take_of_lt (by omega)] at q'
    exact e.loc i a hi q'
  len := by
    show _ ≤ (ρ'.l.take n).length
    rw [List.length_take]
    have := e.len
    omega
  dom := e.dom
  bnew := e.bnew
  bsub := e.bsub
/-- what of the first n is handed on holds none of the others -/
def Low (n : Nat) (S : Sto) : Prop := ∀ (i : Nat) (o : O), S[i]? = some o → ∀ r ∈ o.refs, r < n
theorem LocR.add {p : Addr} {i : Nat} {b : List Addr} {v : V} (h : LocR ρ i v) : LocR (Rho.add ⟨ρ.l, b⟩ p) i v := ⟨by
    show i < (ρ.l ++ [some p]).length
    have := h.1
    rw [List.length_append]; omega, fun a ha => by
    have ha' : (ρ.l ++ [some p])[i]? = some (some a) := ha
    rw [List.getElem?_append_left h.1] at ha'
    exact h.2 a ha'⟩
theorem LocR.cut {n i : Nat} {v : V} (hi : i < n) (h : LocR ρ i v) : LocR (ρ.cut n) i v := ⟨by
    show i < (ρ.l.take n).length
    have := h.1
    rw [List.length_take]; omega, fun a ha => by
    have ha' : (ρ.l.take n)[i]? = some (some a) := ha
    rw [List.getElem?_take_of_lt hi] at ha'
    exact h.2 a ha'⟩
theorem SRel.cut {n : Nat} (s : SRel K ρ H S) (hlow : Low n (S.take n)) : SRel K (ρ.cut n) H (S.take n) where
  len := by simp [s.len, Rho.cut]
  obj := fun i a e => by
    have e' : (ρ.l.take n)[i]? = some (some a) := e
    rw [List.getElem?_take] at e'
    split at e'
    · rename_i hi
      obtain ⟨o, h1, h2⟩ := s.obj i a e'
      exact ⟨o, by rw [List.getElem?_take_of_lt hi]; exact h1, ORel.sub (ρ' := ρ.cut n) (fun a h => ⟨fun z => h.1 (List.mem_of_mem_take z), h.2⟩) (fun r hr v hv => hv.cut (hlow i o (by rw [List.getElem?_take_of_lt hi]; exact h1) r hr)) h2⟩
    · cases e'
  inj := fun i j a e1 e2 => by
    have e1' : (ρ.l.take n)[i]? = some (some a) := e1
    have e2' : (ρ.l.take n)[j]? = some (some a) := e2
    rw [List.getElem?_take] at e1' e2'
    split at e1'
    · split at e2'
      · exact s.inj i j a e1' e2'
      · cases e2'
    · cases e1'
  live := fun i o e ho => by
    rw [List.getElem?_take] at e
    split at e
    · rename_i hi
      obtain ⟨a, q⟩ := s.live i o e ho
      refine ⟨a, ?_⟩
      show (ρ.l.take n)[i]? = _
      rw [List.getElem?_take_of_lt hi]
      exact q
    · cases e
  blk := fun a ha => ⟨(s.blk a ha).1, fun z => (s.blk a ha).2 (List.mem_of_mem_take z)⟩
/-- .. but the k-th, which comes to the place n -/
theorem mem_pick {l : List (Option Addr)} {n k : Nat} {x : Option Addr} (h : x ∈ l.take n ++ (l[k]?).toList) : x ∈ l := by
  rcases List.mem_append.mp h with h | h
  · exact List.mem_of_mem_take h
  · cases e : l[k]? with
    | none => rw [e] at h; simp at h
    | some y => rw [e] at h; simp at h; subst h; exact List.mem_of_getElem? e
theorem pick_at {α : Type} {l : List α} {n k : Nat} (hn : n ≤ k) (hk : k < l.length) {i : Nat} {x : α} (h : (l.take n ++ (l[k]?).toList)[i]? = some x) : (i < n ∧ l[i]? = some x) ∨ (i = n ∧ l[k]? = some x) := by
  have hl : (l.take n).length = n := by rw [List.length_take]; omega
  by_cases hi : i < n
  · rw [List.getElem?_append_left (by omega), List.getElem?_take_of_lt hi] at h
    exact .inl ⟨hi, h⟩
  · rw [List.getElem?_append_right (by omega), hl] at h
    obtain ⟨y, e⟩ : ∃ y, l[k]? = some y := ⟨l[k], by simp [hk]⟩
    rw [e] at h
    cases q : i - n with
    | zero => rw [q] at h; simp at h; exact .inr ⟨by omega, by rw [e, h]⟩
    | succ m => rw [q] at h; simp at h
theorem at_pick_lt {α : Type} {l : List α} {n k : Nat} (hn : n ≤ k) (hk : k < l.length) {i : Nat} (hi : i < n) : (l.take n ++ (l[k]?).toList)[i]? = l[i]? := by
  have hl : (l.take n).length = n := by rw [List.length_take]; omega
  rw [List.getElem?_append_left (by omega), List.getElem?_take_of_lt hi]
theorem at_pick {α : Type} {l : List α} {n k : Nat} (hn : n ≤ k) (hk : k < l.length) : (l.take n ++ (l[k]?).toList)[n]? = l[k]? := by
  have hl : (l.take n).length = n := by rw [List.length_take]; omega
  rw [List.getElem?_append_right (by omega), hl]
  obtain ⟨y, e⟩ : ∃ y, l[k]? = some y := ⟨l[k], by simp [hk]⟩
  rw [e]; simp
theorem Ext.pick {n k : Nat} (e : Ext ρ H ρ' H') (hn : ρ.l.length ≤ n) (hnk : n ≤ k) (hk : k < ρ'.l.length) : Ext ρ H (ρ'.pick n k) H' where
  keep := fun a o h q => ⟨(e.keep a o h q).1, fun z => (e.keep a o h q).2 (mem_pick z)⟩
  loc := fun i a hi q => by
    have q' : (ρ'.l.take n ++ (ρ'.l[k]?).toList)[i]? = some (some a) := q
    rw [at_pick_lt hnk hk (by omega)] at q'
    exact e.loc i a hi q'
  len := by
    show _ ≤ (ρ'.l.take n ++ (ρ'.l[k]?).toList).length
    rw [List.length_append, List.length_take]
    omega
  dom := e.dom
  bnew := e.bnew
  bsub := e.bsub
theorem LocR.pick {n k i : Nat} {v : V} (hnk : n ≤ k) (hk : k < ρ.l.length) (hi : i < n) (h : LocR ρ i v) : LocR (ρ.pick n k) i v := ⟨by
    show i < (ρ.l.take n ++ (ρ.l[k]?).toList).length
    rw [List.length_append, List.length_take]; omega, fun a ha => by
    have ha' : (ρ.l.take n ++ (ρ.l[k]?).toList)[i]? = some (some a) := ha
    rw [at_pick_lt hnk hk hi] at ha'
    exact h.2 a ha'⟩
theorem SRel.pick {n k : Nat} (s : SRel K ρ H S) (hnk : n ≤ k) (hk : k < ρ.l.length) (hlow : Low n (S.take n ++ (S[k]?).toList)) : SRel K (ρ.pick n k) H (S.take n ++ (S[k]?).toList) where
  len := by
    have hk' : k < S.length := by rw [← s.len]; exact hk
    simp [s.len, hk', Rho.pick]
  obj := fun i a e => by
    have hk' : k < S.length := by rw [← s.len]; exact hk
    rcases pick_at hnk hk e with ⟨hi, e'⟩ | ⟨hi, e'⟩
    · obtain ⟨o, h1, h2⟩ := s.obj i a e'
      have h1' : (S.take n ++ (S[k]?).toList)[i]? = some o := by rw [at_pick_lt hnk hk' hi]; exact h1
      exact ⟨o, h1', ORel.sub (ρ' := ρ.pick n k) (fun a h => ⟨fun z => h.1 (mem_pick z), h.2⟩) (fun r hr v hv => hv.pick hnk hk (hlow i o h1' r hr)) h2⟩
    · subst hi
      obtain ⟨o, h1, h2⟩ := s.obj k a e'
      have h1' : (S.take i ++ (S[k]?).toList)[i]? = some o := by rw [at_pick hnk hk']; exact h1
      exact ⟨o, h1', ORel.sub (ρ' := ρ.pick i k) (fun a h => ⟨fun z => h.1 (mem_pick z), h.2⟩) (fun r hr v hv => hv.pick hnk hk (hlow i o h1' r hr)) h2⟩
  inj := fun i j a e1 e2 => by
    rcases pick_at hnk hk e1 with ⟨h1, e1⟩ | ⟨h1, e1⟩ <;> rcases pick_at hnk hk e2 with ⟨h2, e2⟩ | ⟨h2, e2⟩
    · exact s.inj i j a e1 e2
    · have := s.inj i k a e1 e2; omega
    · have := s.inj j k a e2 e1; omega
    · omega
  live := fun i o e ho => by
    have hk' : k < S.length := by rw [← s.len]; exact hk
    rcases pick_at hnk hk' e with ⟨hi, e'⟩ | ⟨hi, e'⟩
    · obtain ⟨a, q⟩ := s.live i o e' ho
      refine ⟨a, ?_⟩
      show (ρ.l.take n ++ (ρ.l[k]?).toList)[i]? = _
      rw [at_pick_lt hnk hk hi]
      exact q
    · subst hi
      obtain ⟨a, q⟩ := s.live k o e' ho
      refine ⟨a, ?_⟩
      show (ρ.l.take i ++ (ρ.l[k]?).toList)[i]? = _
      rw [at_pick hnk hk]
      exact q
  blk := fun a ha => ⟨(s.blk a ha).1, fun z => (s.blk a ha).2 (mem_pick z)⟩

/-! reading -/
def asL (S : Sto) : W → Option (List D)
  | .d (.list xs) => some xs
  | .loc i => match S[i]? with
    | some (.lst xs) => some xs
    | _ => none
  | .sc ns => some (ns.map PyData.int)
  | _ => none
@[simp] def asT : W → Option (List D)
  | .d (.tuple xs) => some xs
  | .ct xs => some xs
  | .ft xs => some xs
  | _ => none
theorem asL_rel (s : SRel K ρ H S) {w : W} {v : V} {ds : List D} (r : RelW K ρ H w v) (h : asL S w = some ds) : ∃ a vs, v = .ref a ∧ SqL K.k H a vs ∧ RepL ρ H ds vs := by
  cases w with
  | d x =>
    cases x with
    | list xs =>
      cases h
      cases r with
      | lst h1 _ h3 => exact ⟨_, _, rfl, .inl (.inl h1), h3⟩
    | _ => cases h
  | loc i =>
    simp only [asL] at h
    split at h
    · rename_i xs e
      cases h
      obtain ⟨a, q⟩ := s.live i _ e (by intro z; cases z)
      obtain ⟨o, h1, h2⟩ := s.obj i a q
      rw [e] at h1; cases h1
      obtain ⟨vs, h3, h4⟩ := h2
      exact ⟨a, vs, r.2 a q, .inl (.inl h3), h4⟩
    · cases h
  | sc ns =>
    cases h
    obtain ⟨a, e, h⟩ := r
    refine ⟨a, ns.map V.int, e, ?_, RepL.ofInts ns⟩
    rcases h with ⟨o, h1, _⟩ | h
    · exact .inl (.inr ⟨o, h1⟩)
    · exact .inr h
  | ct _ => cases h
  | ft _ => cases h
  | kd _ _ => cases h
  | td _ _ => cases h
  | v _ => cases h
theorem asT_rel {w : W} {v : V} {ds : List D} (r : RelW K ρ H w v) (h : asT w = some ds) : ∃ a vs, v = .ref a ∧ SqT K.k H a vs ∧ RepL ρ H ds vs := by
  cases w with
  | d x =>
    cases x with
    | tuple xs =>
      cases h
      cases r with
      | tup h1 _ h3 => exact ⟨_, _, rfl, .inl (.inl h1), h3⟩
    | _ => cases h
  | ct xs =>
    cases h
    obtain ⟨a, vs, e, h1, h2⟩ := r
    exact ⟨a, vs, e, h1 H, h2.rep⟩
  | ft xs =>
    cases h
    obtain ⟨a, o, vs, e, n, h1, c1, c2, h2⟩ := r
    exact ⟨a, vs, e, .inl (.inr ⟨o, h1⟩), h2⟩
  | _ => cases h
theorem SRel.lst_at (s : SRel K ρ H S) {i : Nat} {xs : List D} {v : V} (r : RelW K ρ H (.loc i) v) (h : S[i]? = some (.lst xs)) : ∃ a vs, v = .ref a ∧ ρ.l[i]? = some (some a) ∧ H a = some (.lst vs) ∧ RepL ρ H xs vs := by
  obtain ⟨a, q⟩ := s.live i _ h (by intro z; cases z)
  obtain ⟨o, h1, h2⟩ := s.obj i a q
  rw [h] at h1; cases h1
  obtain ⟨vs, h3, h4⟩ := h2
  exact ⟨a, vs, r.2 a q, q, h3, h4⟩
end DL

set_option Elab.async false
set_option linter.all false
set_option maxRecDepth 100000
set_option autoImplicit false
/-! The data layer, 2: what an expression gives (ME), its canonical reading (tD), the rules. -/
noncomputable section
namespace DL
open PySem PySem.Spec PyProof.Rows L2

abbrev ME := Env → Sto → Option (W × Sto)
abbrev MT := Env → Sto → Option (Bool × Sto)
abbrev MA := Env → Sto → Option (List W × Sto)

def tD (K : KW) (m : ME) : TE := fun σ H Q => ∃ ρ σd S w S', SRel K ρ H S ∧ RelE K ρ H σd σ ∧ m σd S = some (w, S') ∧ ∀ ρ' v H', Ext ρ H ρ' H' → SRel K ρ' H' S' → RelW K ρ' H' w v → Q v H'
def tDT (K : KW) (m : MT) : TT := fun σ H Q => ∃ ρ σd S b S', SRel K ρ H S ∧ RelE K ρ H σd σ ∧ m σd S = some (b, S') ∧ ∀ ρ' H', Ext ρ H ρ' H' → SRel K ρ' H' S' → Q b H'
inductive RelWs (K : KW) (ρ : Rho) (H : Hp) : List W → List V → Prop
  | nil : RelWs K ρ H [] []
  | cons {w : W} {v : V} {ws : List W} {vs : List V} : RelW K ρ H w v → RelWs K ρ H ws vs → RelWs K ρ H (w :: ws) (v :: vs)
def tDA (K : KW) (m : MA) : TA := fun σ H Q => ∃ ρ σd S ws S', SRel K ρ H S ∧ RelE K ρ H σd σ ∧ m σd S = some (ws, S') ∧ ∀ ρ' vs H', Ext ρ H ρ' H' → SRel K ρ' H' S' → RelWs K ρ' H' ws vs → Q vs H'

section
variable {K : KW} {ρ ρ' ρ'' : Rho} {H H' H'' : Hp} {S S' : Sto}
theorem RelWs.ext (e : Ext ρ H ρ' H') {ws : List W} {vs : List V} (h : RelWs K ρ H ws vs) : RelWs K ρ' H' ws vs := by
  induction h with
  | nil => exact .nil
  | cons r _ ih => exact .cons (r.ext e) ih
theorem RelWs.length {ws : List W} {vs : List V} (h : RelWs K ρ H ws vs) : ws.length = vs.length := by
  induction h with
  | nil => rfl
  | cons _ _ ih => simp [ih]
theorem RelWs.one {w : W} {vs : List V} (h : RelWs K ρ H [w] vs) : ∃ v, vs = [v] ∧ RelW K ρ H w v := by
  cases h with
  | cons r t => cases t; exact ⟨_, rfl, r⟩
theorem RelWs.two {w u : W} {vs : List V} (h : RelWs K ρ H [w, u] vs) : ∃ v x, vs = [v, x] ∧ RelW K ρ H w v ∧ RelW K ρ H u x := by
  cases h with
  | cons r t =>
    obtain ⟨x, rfl, q⟩ := t.one
    exact ⟨_, _, rfl, r, q⟩
end

section
variable {X : Cx} {e a b c : Expr} {pos : Pos}
theorem peImp {t t' : TE} (h : PE X e t) (i : ∀ σ H Q, t' σ H Q → t σ H Q) : PE X e t' := ⟨fun pins s σ H Q I q => h.run pins s σ H Q I (i σ H Q q)⟩
theorem ptImp {t t' : TT} (h : PT X e t) (i : ∀ σ H Q, t' σ H Q → t σ H Q) : PT X e t' := ⟨fun pins s σ H Q I q => h.run pins s σ H Q I (i σ H Q q)⟩
theorem paImp {es : List Expr} {t t' : TA} (h : PA X es t) (i : ∀ σ H Q, t' σ H Q → t σ H Q) : PA X es t' := ⟨fun pos pins s σ H Q I q => h.run pos pins s σ H Q I (i σ H Q q)⟩
theorem psImp {st : Stmt} {t t' : TS} (h : PS X st t) (i : ∀ D σ H, t' D σ H → t D σ H) : PS X st t' := ⟨fun pins s σ H D I q => h.run pins s σ H D I (i D σ H q)⟩
theorem pssImp {st : List Stmt} {t t' : TS} (h : PSs X st t) (i : ∀ D σ H, t' D σ H → t D σ H) : PSs X st t' := ⟨fun pins s σ H D I q => h.run pins s σ H D I (i D σ H q)⟩

abbrev PD (X : Cx) (e : Expr) (m : ME) : Prop := PE X e (tD (kwOf X) m)
abbrev PDT (X : Cx) (e : Expr) (m : MT) : Prop := PT X e (tDT (kwOf X) m)
abbrev PDA (X : Cx) (es : List Expr) (m : MA) : Prop := PA X es (tDA (kwOf X) m)

/-! names, constants -/
@[simp] def mVar (i : Nat) : ME := fun σ S => (σ[i]?.bind id).map fun w => (w, S)
theorem d_var (i : Nat) {x : Str} (hN : X.N[i]? = some x := by rfl) (hv : Vis X.env.scope x := by first | exact Or.inl rfl | exact Or.inr (Or.inl rfl) | exact Or.inr (Or.inr rfl)) (hd : (x == ("__debug__" : Str)) = false := by decide)
    (hcd : (x == ("__classdict__" : Str)) = false := by decide) : PD X (.Name x pos) (mVar i) := peImp (pv i hN hv hd hcd) fun σ H Q ⟨ρ, σd, S, w, S', hs, he, hm, q⟩ => by
  unfold mVar at hm
  rw [Option.map_eq_some_iff] at hm
  obtain ⟨w', h1, h2⟩ := hm
  cases h2
  obtain ⟨ow, h3, h4⟩ := Option.bind_eq_some_iff.mp h1
  have h4' : ow = some w := h4
  subst h4'
  obtain ⟨v, h5, h6⟩ := he.get i w h3
  exact ⟨v, h5, q ρ v H .refl hs h6⟩
@[simp] def mC (w : W) : ME := fun _ S => some (w, S)
abbrev mInt (i : Int) : ME := mC (.d (.int i))
abbrev mStr (x : Str) : ME := mC (.d (.str x))
abbrev mBool (b : Bool) : ME := mC (.d (.bool b))
abbrev mNone : ME := mC (.d .none)
theorem d_c {w : W} {v : V} (h : PE X e (tC v)) (hr : ∀ ρ H, RelW (kwOf X) ρ H w v) : PD X e (mC w) := peImp h fun σ H Q ⟨ρ, σd, S, w', S', hs, he, hm, q⟩ => by
  cases hm
  exact q ρ v H .refl hs (hr ρ H)
theorem d_int {i : Int} {j} : PD X (.Constant (.int i) j pos) (mInt i) := d_c pe_int fun _ _ => .int i
theorem d_bool {b : Bool} {j} : PD X (.Constant (.bool b) j pos) (mBool b) := d_c pe_bl fun _ _ => .bl b
theorem d_none {j} : PD X (.Constant .none j pos) mNone := d_c pe_non fun _ _ => .non
theorem d_str {x : Str} {j} : PD X (.Constant (.str x) j pos) (mStr x) := d_c pe_str fun _ _ => .str x
/-- a constant of the top -/
theorem d_glob {x : Str} {w : W} {v : V} {u : Value} (hg : Gl X x) (hm : X.mg x = some u) (r : RelV v u) (hr : ∀ ρ H, RelW (kwOf X) ρ H w v) (hd : (x == ("__debug__" : Str)) = false := by decide) : PD X (.Name x pos) (mC w) := d_c (pe_glob hg hm r hd) hr

/-! operations upon two values -/
abbrev G2 := Sto → W → W → Option W
def rD2 (K : KW) (g : G2) : R2 := fun v u H Q => ∃ ρ S x y w, SRel K ρ H S ∧ RelW K ρ H x v ∧ RelW K ρ H y u ∧ g S x y = some w ∧ ∀ ρ' z H', Ext ρ H ρ' H' → SRel K ρ' H' S → RelW K ρ' H' w z → Q z H'
abbrev OpD (X : Cx) (f : Value → Value → Sem Value) (g : G2) : Prop := OpR X f (rD2 (kwOf X) g)
@[simp] def mBin (g : G2) (a b : ME) : ME := fun σ S => (a σ S).bind fun r => (b σ r.2).bind fun q => (g q.2 r.1 q.1).map fun w => (w, q.2)
theorem bin_of {K : KW} {g : G2} {ma mb : ME} {σ : L2.St} {H : Hp} {Q : VK} (h : tD K (mBin g ma mb) σ H Q) : tOp (rD2 K g) (tD K ma) (tD K mb) σ H Q := by
  obtain ⟨ρ, σd, S, w, S', hs, he, hm, q⟩ := h
  unfold mBin at hm
  obtain ⟨⟨w1, S1⟩, h1, hm⟩ := Option.bind_eq_some_iff.mp hm
  obtain ⟨⟨w2, S2⟩, h2, hm⟩ := Option.bind_eq_some_iff.mp hm
  rw [Option.map_eq_some_iff] at hm
  obtain ⟨w', h3, h4⟩ := hm
  cases h4
  refine ⟨ρ, σd, S, w1, S1, hs, he, h1, fun ρ1 v1 H1 e1 s1 r1 => ⟨ρ1, σd, S1, w2, S2, s1, he.ext e1, h2, fun ρ2 v2 H2 e2 s2 r2 => ?_⟩⟩
  exact ⟨ρ2, S2, w1, w2, w, s2, r1.ext e2, r2, h3, fun ρ3 z H3 e3 s3 r3 => q ρ3 z H3 ((e1.trans e2).trans e3) s3 r3⟩
theorem d_bin {op : Operator} {g : G2} {ma mb : ME} (ho : OpD X (binaryOp op) g) (ha : PD X a ma) (hb : PD X b mb) : PD X (.BinOp a op b pos) (mBin g ma mb) :=
  peImp (pe_op ho ha hb) fun _ _ _ h => bin_of h
theorem d_cmp {op : CmpOp} {g : G2} {ma mb : ME} (ho : OpD X (compareOp op) g) (ha : PD X a ma) (hb : PD X b mb) (hm : behindInMarks op b = false) : PD X (.Compare a [op] [b] pos) (mBin g ma mb) :=
  peImp (pe_cmpR ho ha hb hm) fun _ _ _ h => bin_of h
/-- a value as a test -/
@[simp] def asB : W → Option Bool
  | .d (.bool b) => some b
  | _ => none
theorem asB_rel {K : KW} {ρ : Rho} {H : Hp} {w : W} {v : V} {b : Bool} (h : asB w = some b) (r : RelW K ρ H w v) : v = .bl b := by
  cases w with
  | d x =>
    cases x with
    | bool c => cases h; cases r; rfl
    | _ => cases h
  | _ => cases h
@[simp] def mB (m : ME) : MT := fun σ S => (m σ S).bind fun r => (asB r.1).map fun b => (b, r.2)
theorem test_of {K : KW} {m : ME} {t : TE} (i : ∀ σ H Q, tD K m σ H Q → t σ H Q) {σ : L2.St} {H : Hp} {Q : Bool → Hp → Prop} (h : tDT K (mB m) σ H Q) : tTest t σ H Q := by
  obtain ⟨ρ, σd, S, b, S', hs, he, hm, q⟩ := h
  obtain ⟨⟨w1, S1⟩, h1, hm⟩ := Option.bind_eq_some_iff.mp hm
  rw [Option.map_eq_some_iff] at hm
  obtain ⟨b', h3, h4⟩ := hm
  cases h4
  exact i _ _ _ ⟨ρ, σd, S, w1, S1, hs, he, h1, fun ρ1 v1 H1 e1 s1 r1 => ⟨b, asB_rel h3 r1, q ρ1 H1 e1 s1⟩⟩
theorem d_cmpT {op : CmpOp} {g : G2} {ma mb : ME} (ho : OpD X (compareOp op) g) (ha : PD X a ma) (hb : PD X b mb) (hm : behindInMarks op b = false) : PDT X (.Compare a [op] [b] pos) (mB (mBin g ma mb)) :=
  ptImp (pt_cmpR ho ha hb hm) fun _ _ _ h => test_of (fun _ _ _ => bin_of) h
/-- a < b < c -/
@[simp] def mChain (g g' : G2) (a b c : ME) : ME := fun σ S => (a σ S).bind fun r => (b σ r.2).bind fun q => (g q.2 r.1 q.1).bind fun w => (asB w).bind fun k =>
  if k = true then (c σ q.2).bind fun p => (g' p.2 q.1 p.1).map fun w => (w, p.2) else some (.d (.bool false), q.2)
theorem chain_of {K : KW} {g g' : G2} {ma mb mc : ME} {σ : L2.St} {H : Hp} {Q : VK} (h : tD K (mChain g g' ma mb mc) σ H Q) : tChain (rD2 K g) (rD2 K g') (tD K ma) (tD K mb) (tD K mc) σ H Q := by
  obtain ⟨ρ, σd, S, w, S', hs, he, hm, q⟩ := h
  unfold mChain at hm
  obtain ⟨⟨w1, S1⟩, h1, hm⟩ := Option.bind_eq_some_iff.mp hm
  obtain ⟨⟨w2, S2⟩, h2, hm⟩ := Option.bind_eq_some_iff.mp hm
  obtain ⟨w', h3, hm⟩ := Option.bind_eq_some_iff.mp hm
  obtain ⟨k, hk, hm⟩ := Option.bind_eq_some_iff.mp hm
  refine ⟨ρ, σd, S, w1, S1, hs, he, h1, fun ρ1 v1 H1 e1 s1 r1 => ⟨ρ1, σd, S1, w2, S2, s1, he.ext e1, h2, fun ρ2 v2 H2 e2 s2 r2 => ?_⟩⟩
  refine ⟨ρ2, S2, w1, w2, w', s2, r1.ext e2, r2, h3, fun ρ3 z H3 e3 s3 r3 => ⟨k, asB_rel hk r3, ?_⟩⟩
  cases k with
  | false =>
    rw [if_neg Bool.false_ne_true] at hm ⊢
    cases hm
    exact q ρ3 _ H3 ((e1.trans e2).trans e3) s3 (.bl false)
  | true =>
    rw [if_pos rfl] at hm ⊢
    obtain ⟨⟨w4, S4⟩, h4, hm⟩ := Option.bind_eq_some_iff.mp hm
    rw [Option.map_eq_some_iff] at hm
    obtain ⟨w5, h5, h6⟩ := hm
    cases h6
    refine ⟨ρ3, σd, S2, w4, S4, s3, he.ext ((e1.trans e2).trans e3), h4, fun ρ4 v4 H4 e4 s4 r4 => ?_⟩
    exact ⟨ρ4, S4, w2, w4, w, s4, r2.ext (e3.trans e4), r4, h5, fun ρ5 z5 H5 e5 s5 r5 => q ρ5 z5 H5 ((((e1.trans e2).trans e3).trans e4).trans e5) s5 r5⟩
theorem d_chain {op op' : CmpOp} {g g' : G2} {ma mb mc : ME} (ho : OpD X (compareOp op) g) (ho' : OpD X (compareOp op') g') (ha : PD X a ma) (hb : PD X b mb) (hc : PD X c mc)
    (hm : lastMarks [op, op'] [b, c] = false := by with_unfolding_all rfl) : PD X (.Compare a [op, op'] [b, c] pos) (mChain g g' ma mb mc) := peImp (pe_chain ho ho' ha hb hc hm) fun _ _ _ h => chain_of h
theorem d_chainT {op op' : CmpOp} {g g' : G2} {ma mb mc : ME} (ho : OpD X (compareOp op) g) (ho' : OpD X (compareOp op') g') (ha : PD X a ma) (hb : PD X b mb) (hc : PD X c mc)
    (hm : lastMarks [op, op'] [b, c] = false := by with_unfolding_all rfl) : PDT X (.Compare a [op, op'] [b, c] pos) (mB (mChain g g' ma mb mc)) := ptImp (pt_chain ho ho' ha hb hc hm) fun _ _ _ h => test_of (fun _ _ _ => chain_of) h
/-- an expression that gives a truth value, as a test -/
theorem d_valT {m : ME} (h : PD X e m) (he : ∀ whole, isTrue e X.env whole = (do let v ← whole; standAt e.pos; holding [v] (truthy v)) := by intro _; rfl) : PDT X e (mB m) :=
  ptImp (pt_val h he) fun _ _ _ h => test_of (fun _ _ _ h => h) h

/-! and, or, not -/
abbrev PDW (X : Cx) (e : Expr) (m : MT) : Prop := PW X e (tDT (kwOf X) m)
theorem pwImp {t t' : TT} (h : PW X e t) (i : ∀ σ H Q, t' σ H Q → t σ H Q) : PW X e t' := ⟨fun wh pins s σ H Q I q => h.run wh pins s σ H Q I (i σ H Q q)⟩
@[simp] def mAndT (a b : MT) : MT := fun σ S => (a σ S).bind fun r => if r.1 = true then b σ r.2 else some (false, r.2)
@[simp] def mOrT (a b : MT) : MT := fun σ S => (a σ S).bind fun r => if r.1 = true then some (true, r.2) else b σ r.2
@[simp] def mNotT (a : MT) : MT := fun σ S => (a σ S).map fun r => (!r.1, r.2)
variable {rest : List Expr}
theorem d_and1 {ma : MT} (ha : PDT X a ma) : PDW X (.BoolOp .And [a] pos) ma := pw_and1 ha
theorem d_or1 {ma : MT} (ha : PDT X a ma) : PDW X (.BoolOp .Or [a] pos) ma := pw_or1 ha
theorem d_andT {ma mb : MT} (ha : PDT X a ma) (hb : PDW X (.BoolOp .And (b :: rest) pos) mb) : PDW X (.BoolOp .And (a :: b :: rest) pos) (mAndT ma mb) :=
  pwImp (pw_and ha hb) fun σ H Q ⟨ρ, σd, S, k, S', hs, he, hm, q⟩ => by
    obtain ⟨⟨k1, S1⟩, h1, hm⟩ := Option.bind_eq_some_iff.mp hm
    refine ⟨ρ, σd, S, k1, S1, hs, he, h1, fun ρ1 H1 e1 s1 => ?_⟩
    cases k1 with
    | true =>
      rw [if_pos rfl] at hm ⊢
      exact ⟨ρ1, σd, S1, k, S', s1, he.ext e1, hm, fun ρ2 H2 e2 s2 => q ρ2 H2 (e1.trans e2) s2⟩
    | false =>
      rw [if_neg Bool.false_ne_true] at hm ⊢
      cases hm
      exact q ρ1 H1 e1 s1
theorem d_orT {ma mb : MT} (ha : PDT X a ma) (hb : PDW X (.BoolOp .Or (b :: rest) pos) mb) : PDW X (.BoolOp .Or (a :: b :: rest) pos) (mOrT ma mb) :=
  pwImp (pw_or ha hb) fun σ H Q ⟨ρ, σd, S, k, S', hs, he, hm, q⟩ => by
    obtain ⟨⟨k1, S1⟩, h1, hm⟩ := Option.bind_eq_some_iff.mp hm
    refine ⟨ρ, σd, S, k1, S1, hs, he, h1, fun ρ1 H1 e1 s1 => ?_⟩
    cases k1 with
    | false =>
      rw [if_neg Bool.false_ne_true] at hm ⊢
      exact ⟨ρ1, σd, S1, k, S', s1, he.ext e1, hm, fun ρ2 H2 e2 s2 => q ρ2 H2 (e1.trans e2) s2⟩
    | true =>
      rw [if_pos rfl] at hm ⊢
      cases hm
      exact q ρ1 H1 e1 s1
theorem d_w {m : MT} (h : PDW X e m) : PDT X e m := h.pt
theorem d_notT {ma : MT} (ha : PDT X a ma) : PDT X (.UnaryOp .Not a pos) (mNotT ma) := ptImp (pt_not ha) fun σ H Q ⟨ρ, σd, S, k, S', hs, he, hm, q⟩ => by
  unfold mNotT at hm
  rw [Option.map_eq_some_iff] at hm
  obtain ⟨⟨k1, S1⟩, h1, h2⟩ := hm
  cases h2
  exact ⟨ρ, σd, S, k1, S1, hs, he, h1, fun ρ1 H1 e1 s1 => q ρ1 H1 e1 s1⟩
/-- .. as values -/
@[simp] def mAnd (a b : ME) : ME := fun σ S => (a σ S).bind fun r => (asB r.1).bind fun k => if k = true then b σ r.2 else some (.d (.bool false), r.2)
@[simp] def mOr (a b : ME) : ME := fun σ S => (a σ S).bind fun r => (asB r.1).bind fun k => if k = true then some (.d (.bool true), r.2) else b σ r.2
@[simp] def mNot (a : ME) : ME := fun σ S => (a σ S).bind fun r => (asB r.1).map fun k => (.d (.bool (!k)), r.2)
theorem d_one {op} {m : ME} (h : PD X a m) : PD X (.BoolOp op [a] pos) m := pe_one h
theorem d_and {ma mb : ME} (ha : PD X a ma) (hb : PD X (.BoolOp .And (b :: rest) pos) mb) : PD X (.BoolOp .And (a :: b :: rest) pos) (mAnd ma mb) :=
  peImp (pe_and ha hb) fun σ H Q ⟨ρ, σd, S, w, S', hs, he, hm, q⟩ => by
    obtain ⟨⟨w1, S1⟩, h1, hm⟩ := Option.bind_eq_some_iff.mp hm
    obtain ⟨k, hk, hm⟩ := Option.bind_eq_some_iff.mp hm
    refine ⟨ρ, σd, S, w1, S1, hs, he, h1, fun ρ1 v1 H1 e1 s1 r1 => ⟨k, asB_rel hk r1, ?_⟩⟩
    cases k with
    | true =>
      rw [if_pos rfl] at hm ⊢
      exact ⟨ρ1, σd, S1, w, S', s1, he.ext e1, hm, fun ρ2 z H2 e2 s2 r2 => q ρ2 z H2 (e1.trans e2) s2 r2⟩
    | false =>
      rw [if_neg Bool.false_ne_true] at hm ⊢
      cases hm
      exact q ρ1 _ H1 e1 s1 (.bl false)
theorem d_or {ma mb : ME} (ha : PD X a ma) (hb : PD X (.BoolOp .Or (b :: rest) pos) mb) : PD X (.BoolOp .Or (a :: b :: rest) pos) (mOr ma mb) :=
  peImp (pe_or ha hb) fun σ H Q ⟨ρ, σd, S, w, S', hs, he, hm, q⟩ => by
    obtain ⟨⟨w1, S1⟩, h1, hm⟩ := Option.bind_eq_some_iff.mp hm
    obtain ⟨k, hk, hm⟩ := Option.bind_eq_some_iff.mp hm
    refine ⟨ρ, σd, S, w1, S1, hs, he, h1, fun ρ1 v1 H1 e1 s1 r1 => ⟨k, asB_rel hk r1, ?_⟩⟩
    cases k with
    | false =>
      rw [if_neg Bool.false_ne_true] at hm ⊢
      exact ⟨ρ1, σd, S1, w, S', s1, he.ext e1, hm, fun ρ2 z H2 e2 s2 r2 => q ρ2 z H2 (e1.trans e2) s2 r2⟩
    | true =>
      rw [if_pos rfl] at hm ⊢
      cases hm
      exact q ρ1 _ H1 e1 s1 (.bl true)
theorem d_not {ma : ME} (ha : PD X a ma) : PD X (.UnaryOp .Not a pos) (mNot ma) := peImp (pe_not ha) fun σ H Q ⟨ρ, σd, S, w, S', hs, he, hm, q⟩ => by
  obtain ⟨⟨w1, S1⟩, h1, hm⟩ := Option.bind_eq_some_iff.mp hm
  rw [Option.map_eq_some_iff] at hm
  obtain ⟨k, hk, h2⟩ := hm
  cases h2
  exact ⟨ρ, σd, S, w1, S1, hs, he, h1, fun ρ1 v1 H1 e1 s1 r1 => ⟨k, asB_rel hk r1, q ρ1 _ H1 e1 s1 (.bl _)⟩⟩
@[simp] def mIf (t : MT) (a b : ME) : ME := fun σ S => (t σ S).bind fun r => if r.1 = true then a σ r.2 else b σ r.2
theorem d_if {mt : MT} {ma mb : ME} (hc : PDT X c mt) (ha : PD X a ma) (hb : PD X b mb) : PD X (.IfExp c a b pos) (mIf mt ma mb) :=
  peImp (pe_ifExp hc ha hb) fun σ H Q ⟨ρ, σd, S, w, S', hs, he, hm, q⟩ => by
    obtain ⟨⟨k, S1⟩, h1, hm⟩ := Option.bind_eq_some_iff.mp hm
    refine ⟨ρ, σd, S, k, S1, hs, he, h1, fun ρ1 H1 e1 s1 => ?_⟩
    cases k with
    | true =>
      rw [if_pos rfl] at hm ⊢
      exact ⟨ρ1, σd, S1, w, S', s1, he.ext e1, hm, fun ρ2 z H2 e2 s2 r2 => q ρ2 z H2 (e1.trans e2) s2 r2⟩
    | false =>
      rw [if_neg Bool.false_ne_true] at hm ⊢
      exact ⟨ρ1, σd, S1, w, S', s1, he.ext e1, hm, fun ρ2 z H2 e2 s2 r2 => q ρ2 z H2 (e1.trans e2) s2 r2⟩

/-! operations upon one value -/
abbrev G1 := Sto → W → Option W
def rD1 (K : KW) (g : G1) : V → Hp → VK → Prop := fun v H Q => ∃ ρ S x w, SRel K ρ H S ∧ RelW K ρ H x v ∧ g S x = some w ∧ ∀ ρ' z H', Ext ρ H ρ' H' → SRel K ρ' H' S → RelW K ρ' H' w z → Q z H'
abbrev UnD (X : Cx) (f : Value → Sem Value) (g : G1) : Prop := UnR X f (rD1 (kwOf X) g)
@[simp] def mUn (g : G1) (a : ME) : ME := fun σ S => (a σ S).bind fun r => (g r.2 r.1).map fun w => (w, r.2)
theorem d_un {op : UnaryOp} {g : G1} {ma : ME} (ho : UnD X (unaryOp op) g) (ha : PD X a ma) : PD X (.UnaryOp op a pos) (mUn g ma) := peImp (pe_un ho ha) fun σ H Q ⟨ρ, σd, S, w, S', hs, he, hm, q⟩ => by
  unfold mUn at hm
  obtain ⟨⟨w1, S1⟩, h1, hm⟩ := Option.bind_eq_some_iff.mp hm
  rw [Option.map_eq_some_iff] at hm
  obtain ⟨w', h3, h4⟩ := hm
  cases h4
  exact ⟨ρ, σd, S, w1, S1, hs, he, h1, fun ρ1 v1 H1 e1 s1 r1 => ⟨ρ1, S1, w1, w, s1, r1, h3, fun ρ2 z H2 e2 s2 r2 => q ρ2 z H2 (e1.trans e2) s2 r2⟩⟩

/-! arguments -/
@[simp] def mNil : MA := fun _ S => some ([], S)
@[simp] def mCons (a : ME) (r : MA) : MA := fun σ S => (a σ S).bind fun p => (r σ p.2).map fun q => (p.1 :: q.1, q.2)
theorem da_nil : PDA X [] mNil := paImp pa_nil fun σ H Q ⟨ρ, σd, S, w, S', hs, he, hm, q⟩ => by
  cases hm
  exact q ρ _ H .refl hs .nil
theorem da_cons {es : List Expr} {ma : ME} {mr : MA} (ha : PD X a ma) (hr : PDA X es mr) (hs : starEach (a :: es) X.env = (false, eval a X.env) :: starEach es X.env := by rfl) : PDA X (a :: es) (mCons ma mr) :=
  paImp (pa_cons ha hr hs) fun σ H Q ⟨ρ, σd, S, w, S', hs, he, hm, q⟩ => by
    obtain ⟨⟨w1, S1⟩, h1, hm⟩ := Option.bind_eq_some_iff.mp hm
    rw [Option.map_eq_some_iff] at hm
    obtain ⟨⟨ws, S2⟩, h2, h3⟩ := hm
    cases h3
    exact ⟨ρ, σd, S, w1, S1, hs, he, h1, fun ρ1 v1 H1 e1 s1 r1 => ⟨ρ1, σd, S1, ws, _, s1, he.ext e1, h2, fun ρ2 vs H2 e2 s2 r2 => q ρ2 _ H2 (e1.trans e2) s2 (.cons (r1.ext e2) r2)⟩⟩

/-! tuples and lists, written -/
@[simp] def asD1 : W → Option D
  | .d x => some x
  | _ => none
@[simp] def asDs : List W → Option (List D)
  | [] => some []
  | w :: ws => (asD1 w).bind fun d => (asDs ws).map fun ds => d :: ds
theorem asDs_rel {K : KW} {ρ : Rho} {H : Hp} : ∀ {ws : List W} {vs : List V} {ds : List D}, asDs ws = some ds → RelWs K ρ H ws vs → RepL ρ H ds vs
  | [], _, _, h, r => by cases h; cases r; exact .nil
  | w :: ws, _, _, h, r => by
    cases r with
    | cons r1 r2 =>
      obtain ⟨d, h1, h2⟩ := Option.bind_eq_some_iff.mp h
      rw [Option.map_eq_some_iff] at h2
      obtain ⟨ds, h3, h4⟩ := h2
      cases h4
      cases w with
      | d x => cases h1; exact .cons r1 (asDs_rel h3 r2)
      | _ => cases h1
theorem asDs_len : ∀ {ws : List W} {ds : List D}, asDs ws = some ds → ds.length = ws.length
  | [], _, h => by cases h; rfl
  | w :: ws, _, h => by
    obtain ⟨d, h1, h2⟩ := Option.bind_eq_some_iff.mp h
    rw [Option.map_eq_some_iff] at h2
    obtain ⟨ds, h3, h4⟩ := h2
    cases h4
    simp [asDs_len h3]
def fits (n : Nat) : Bool := decide (n ≤ 16777216)
theorem fits_ok {n : Nat} (h : fits n = true) : n ≤ sizeLine := by rw [sizeLine_eq]; exact of_decide_eq_true h
theorem fits_lt {n : Nat} (h : fits (n + 1) = true) : n < sizeLine := by rw [sizeLine_eq]; have := of_decide_eq_true h; omega
@[simp] def mTup (m : MA) : ME := fun σ S => (m σ S).bind fun r => (asDs r.1).bind fun ds => if fits ds.length = true then some (.d (.tuple ds), r.2) else none
@[simp] def mLst (m : MA) : ME := fun σ S => (m σ S).bind fun r => (asDs r.1).bind fun ds => if fits ds.length = true then some (.d (.list ds), r.2) else none
/-- a list that is to be changed -/
@[simp] def mNew (m : MA) : ME := fun σ S => (m σ S).bind fun r => (asDs r.1).bind fun ds => if fits ds.length = true then some (.loc r.2.length, r.2 ++ [.lst ds]) else none
theorem some_if {α : Type} {c : Bool} {x y : α} (h : (if c = true then some x else none) = some y) : c = true ∧ x = y := by
  cases c with
  | true => exact ⟨rfl, Option.some.inj h⟩
  | false => cases h
variable {es : List Expr}
theorem d_tup {x1} {m : MA} (h : PDA X es m) : PD X (.Tuple es x1 pos) (mTup m) := peImp (pe_tup h) fun σ H Q ⟨ρ, σd, S, w, S', hs, he, hm, q⟩ => by
  obtain ⟨⟨ws, S1⟩, h1, hm⟩ := Option.bind_eq_some_iff.mp hm
  obtain ⟨ds, hd, hm⟩ := Option.bind_eq_some_iff.mp hm
  obtain ⟨hf, hm⟩ := some_if hm
  cases hm
  refine ⟨ρ, σd, S, ws, S1, hs, he, h1, fun ρ1 vs H1 e1 s1 r1 => ?_⟩
  have r := asDs_rel hd r1
  refine ⟨by rw [← r.length]; exact fits_ok hf, fun p hp => q ρ1 _ _ (e1.trans (Ext.new hp)) (s1.new hp) ?_⟩
  exact .tup upd_same (s1.fresh hp) (r.ext (Ext.new hp))
theorem d_lst {m : MA} (h : PDA X es m) : PD X (.List es pos) (mLst m) := peImp (pe_lst h) fun σ H Q ⟨ρ, σd, S, w, S', hs, he, hm, q⟩ => by
  obtain ⟨⟨ws, S1⟩, h1, hm⟩ := Option.bind_eq_some_iff.mp hm
  obtain ⟨ds, hd, hm⟩ := Option.bind_eq_some_iff.mp hm
  obtain ⟨hf, hm⟩ := some_if hm
  cases hm
  refine ⟨ρ, σd, S, ws, S1, hs, he, h1, fun ρ1 vs H1 e1 s1 r1 => ?_⟩
  have r := asDs_rel hd r1
  refine ⟨by rw [← r.length]; exact fits_ok hf, fun p hp => q ρ1 _ _ (e1.trans (Ext.new hp)) (s1.new hp) ?_⟩
  exact .lst upd_same (s1.fresh hp) (r.ext (Ext.new hp))
theorem new_loc {K : KW} {ρ : Rho} {H0 H : Hp} {S : Sto} {p : Addr} (s : SRel K ρ H0 S) : RelW K (ρ.add p) H (.loc S.length) (.ref p) := by
  refine ⟨by simp [s.len, Rho.add], fun a ha => ?_⟩
  have ha : (ρ.l ++ [some p])[S.length]? = some (some a) := ha
  rw [← s.len, List.getElem?_append_right (Nat.le_refl _)] at ha
  simp at ha
  rw [ha]
theorem d_new {m : MA} (h : PDA X es m) : PD X (.List es pos) (mNew m) := peImp (pe_lst h) fun σ H Q ⟨ρ, σd, S, w, S', hs, he, hm, q⟩ => by
  obtain ⟨⟨ws, S1⟩, h1, hm⟩ := Option.bind_eq_some_iff.mp hm
  obtain ⟨ds, hd, hm⟩ := Option.bind_eq_some_iff.mp hm
  obtain ⟨hf, hm⟩ := some_if hm
  cases hm
  refine ⟨ρ, σd, S, ws, S1, hs, he, h1, fun ρ1 vs H1 e1 s1 r1 => ?_⟩
  have r := asDs_rel hd r1
  refine ⟨by rw [← r.length]; exact fits_ok hf, fun p hp => q (ρ1.add p) _ _ (e1.trans (Ext.alloc s1 hp)) (s1.alloc hp ?_) (new_loc s1)⟩
  exact ⟨vs, upd_same, r.ext (Ext.alloc s1 hp)⟩
/-- a dict that is to be changed, of plain keys, of tuples -/
@[simp] def mNewK : ME := fun _ S => some (.loc S.length, S ++ [.dK []])
@[simp] def mNewT : ME := fun _ S => some (.loc S.length, S ++ [.dT []])
theorem d_newK : PD X (.Dict [] [] pos) mNewK := peImp pe_dnewK fun σ H Q ⟨ρ, σd, S, w, S', hs, he, hm, q⟩ => by
  cases hm
  exact fun p hp => q (ρ.add p) _ _ (Ext.alloc hs hp) (hs.alloc hp ⟨[], upd_same, .nil⟩) (new_loc hs)
theorem d_newT : PD X (.Dict [] [] pos) mNewT := peImp pe_dnewT fun σ H Q ⟨ρ, σd, S, w, S', hs, he, hm, q⟩ => by
  cases hm
  exact fun p hp => q (ρ.add p) _ _ (Ext.alloc hs hp) (hs.alloc hp ⟨[], upd_same, .nil⟩) (new_loc hs)
/-- a ghost step: what was mutable is data from here on -/
def frz (S : Sto) : W → Option (W × Sto)
  | .loc i => match S[i]? with
    | some (.lst xs) => some (.d (.list xs), S.set i .dead)
    | some (.dK kvs) => some (.kd false kvs, S.set i .dead)
    | some (.dT kvs) => some (.td false kvs, S.set i .dead)
    | _ => none
  | .kd b kvs => some (.kd b kvs, S)
  | .td b kvs => some (.td b kvs, S)
  | .d x => some (.d x, S)
  | _ => none
theorem frz_ok {K : KW} {ρ : Rho} {H : Hp} {S S' : Sto} {w w' : W} {v : V} (s : SRel K ρ H S) (r : RelW K ρ H w v) (h : frz S w = some (w', S')) : ∃ ρ', Ext ρ H ρ' H ∧ SRel K ρ' H S' ∧ RelW K ρ' H w' v := by
  cases w with
  | loc i =>
    simp only [frz] at h
    split at h
    · rename_i xs e
      cases h
      obtain ⟨a, vs, rfl, h1, h2, h3⟩ := s.lst_at r e
      exact ⟨ρ.kill i, Ext.freeze, s.freeze, .lst h2 (s.notin h1) (h3.ext Ext.freeze)⟩
    · rename_i kvs e
      cases h
      obtain ⟨a, q⟩ := s.live i _ e (by intro z; cases z)
      obtain ⟨o, h1, h2⟩ := s.obj i a q
      rw [e] at h1; cases h1
      obtain ⟨us, h3, h4⟩ := h2
      exact ⟨ρ.kill i, Ext.freeze, s.freeze, a, us, r.2 a q, s.notin q, .inl h3, fun z => (by cases z), h4.ext Ext.freeze⟩
    · rename_i kvs e
      cases h
      obtain ⟨a, q⟩ := s.live i _ e (by intro z; cases z)
      obtain ⟨o, h1, h2⟩ := s.obj i a q
      rw [e] at h1; cases h1
      obtain ⟨us, h3, h4⟩ := h2
      exact ⟨ρ.kill i, Ext.freeze, s.freeze, a, us, r.2 a q, s.notin q, .inl h3, fun z => (by cases z), h4.ext Ext.freeze⟩
    · cases h
  | kd b kvs => cases h; exact ⟨ρ, Ext.refl, s, r⟩
  | td b kvs => cases h; exact ⟨ρ, Ext.refl, s, r⟩
  | d x => cases h; exact ⟨ρ, Ext.refl, s, r⟩
  | _ => cases h
def mFrz (a : ME) : ME := fun σ S => (a σ S).bind fun r => frz r.2 r.1
theorem d_frz {m : ME} (h : PD X e m) : PD X e (mFrz m) := peImp h fun σ H Q ⟨ρ, σd, S, w, S', hs, he, hm, q⟩ => by
  obtain ⟨⟨w1, S1⟩, h1, hm⟩ := Option.bind_eq_some_iff.mp hm
  refine ⟨ρ, σd, S, w1, S1, hs, he, h1, fun ρ1 v1 H1 e1 s1 r1 => ?_⟩
  obtain ⟨ρ2, e2, s2, r2⟩ := frz_ok s1 r1 hm
  exact q ρ2 v1 H1 (e1.trans e2) s2 r2
/-- data becomes mutable: a new list that nobody holds (a comprehension, a slice ..) -/
def thaw (S : Sto) : W → Option (W × Sto)
  | _ => none

/-! calls of what is built in -/
abbrev GC := Sto → List W → Option (W × Sto)
def rDC (K : KW) (g : GC) : List V → Hp → VK → Prop := fun vs H Q => ∃ ρ S ws w S', SRel K ρ H S ∧ RelWs K ρ H ws vs ∧ g S ws = some (w, S') ∧ ∀ ρ' z H', Ext ρ H ρ' H' → SRel K ρ' H' S' → RelW K ρ' H' w z → Q z H'
abbrev CallD (X : Cx) (f : Value) (g : GC) : Prop := CallR X f (rDC (kwOf X) g)
@[simp] def mCall (g : GC) (m : MA) : ME := fun σ S => (m σ S).bind fun r => g r.2 r.1
theorem call_of {K : KW} {g : GC} {m : MA} {σ : L2.St} {H : Hp} {Q : VK} (h : tD K (mCall g m) σ H Q) : tCB (rDC K g) (tDA K m) σ H Q := by
  obtain ⟨ρ, σd, S, w, S', hs, he, hm, q⟩ := h
  obtain ⟨⟨ws, S1⟩, h1, hm⟩ := Option.bind_eq_some_iff.mp hm
  exact ⟨ρ, σd, S, ws, S1, hs, he, h1, fun ρ1 vs H1 e1 s1 r1 => ⟨ρ1, S1, ws, w, S', s1, r1, hm, fun ρ2 z H2 e2 s2 r2 => q ρ2 z H2 (e1.trans e2) s2 r2⟩⟩
theorem d_callB {x : Str} {id : String} {g : GC} {p : Pos} {m : MA} (hc : CallD X (.builtin id) g) (hg : Gl X x) (hm : X.mg x = none) (hv : bootBuiltins x = some (.builtin id)) (ha : PDA X (e :: es) m) (hn : x ≠ "__name__" := by decide) (hdb : (x == ("__debug__" : Str)) = false := by decide)
    (he : starEach (e :: es) X.env = (false, eval e X.env) :: starEach es X.env := by rfl) (hpl : (backTo pos (starEach es X.env)).any (·.1) = false := by rfl) : PD X (.Call (.Name x p) (e :: es) [] pos) (mCall g m) :=
  peImp (pe_callB hc hg hm hv ha hn hdb he hpl) fun _ _ _ h => call_of h
theorem d_callTy {x : Str} {T : String} {g : GC} {p : Pos} {m : MA} (hc : CallD X (.type T) g) (hg : Gl X x) (hm : X.mg x = none) (hv : bootBuiltins x = some (.type T)) (ha : PDA X (e :: es) m) (hn : x ≠ "__name__" := by decide) (hdb : (x == ("__debug__" : Str)) = false := by decide)
    (he : starEach (e :: es) X.env = (false, eval e X.env) :: starEach es X.env := by rfl) (hpl : (backTo pos (starEach es X.env)).any (·.1) = false := by rfl) : PD X (.Call (.Name x p) (e :: es) [] pos) (mCall g m) :=
  peImp (pe_callTy hc hg hm hv ha hn hdb he hpl) fun _ _ _ h => call_of h

/-! subscripts -/
abbrev IxD (X : Cx) (g : G2) : Prop := IxR X (rD2 (kwOf X) g)
theorem d_ix {g : G2} {ma mb : ME} (hr : IxD X g) (ha : PD X a ma) (hb : PD X b mb) (hs : PlainIx b) : PD X (.Subscript a b pos) (mBin g ma mb) := peImp (pe_ix hr ha hb hs) fun _ _ _ h => bin_of h
end
end DL

set_option Elab.async false
set_option linter.all false
set_option maxRecDepth 100000
set_option autoImplicit false
/-! The data layer, 3: statements, loops, comprehensions, defs. -/
noncomputable section
namespace DL
open PySem PySem.Spec PyProof.Rows L2

inductive Out where
  | nx (σ : Env) (S : Sto) | rt (w : W) (S : Sto) | bk (σ : Env) (S : Sto) | ct (σ : Env) (S : Sto)
abbrev MS := Env → Sto → Option Out

def OutOk (K : KW) (ρ : Rho) (H : Hp) (D : Ends) : Out → Prop
  | .nx σd S => ∀ ρ' σ' H', Ext ρ H ρ' H' → SRel K ρ' H' S → RelE K ρ' H' σd σ' → D.nx σ' H'
  | .bk σd S => ∀ ρ' σ' H', Ext ρ H ρ' H' → SRel K ρ' H' S → RelE K ρ' H' σd σ' → D.bk σ' H'
  | .ct σd S => ∀ ρ' σ' H', Ext ρ H ρ' H' → SRel K ρ' H' S → RelE K ρ' H' σd σ' → D.ct σ' H'
  | .rt w S => ∀ ρ' v H', Ext ρ H ρ' H' → SRel K ρ' H' S → RelW K ρ' H' w v → D.rt v H'
theorem OutOk.ext {K : KW} {ρ ρ' : Rho} {H H' : Hp} {D : Ends} (e : Ext ρ H ρ' H') {o : Out} (h : OutOk K ρ H D o) : OutOk K ρ' H' D o := by
  cases o <;> exact fun ρ2 x H2 e2 => h ρ2 x H2 (e.trans e2)
def sD (K : KW) (m : MS) : TS := fun D σ H => ∃ ρ σd S out, SRel K ρ H S ∧ RelE K ρ H σd σ ∧ m σd S = some out ∧ OutOk K ρ H D out

theorem RelE.set {K : KW} {ρ : Rho} {H : Hp} {σd : Env} {σ : L2.St} {w : W} {v : V} (h : RelE K ρ H σd σ) (r : RelW K ρ H w v) (i : Nat) : RelE K ρ H (σd.set i (some w)) (σ.set i (some v)) := by
  refine ⟨by simp [h.len], fun j u e => ?_⟩
  by_cases hj : i = j
  · subst hj
    rw [List.getElem?_set] at e
    rw [if_pos rfl] at e
    split at e
    · rename_i hl
      cases e
      exact ⟨v, by rw [List.getElem?_set_self (by rw [← h.len]; exact hl)], r⟩
    · cases e
  · rw [List.getElem?_set_ne hj] at e
    obtain ⟨x, h1, h2⟩ := h.get j u e
    exact ⟨x, by rw [List.getElem?_set_ne hj]; exact h1, h2⟩

section
variable {X : Cx} {e a b c : Expr} {pos : Pos} {st : Stmt} {rest : List Stmt} {es : List Expr}
abbrev PDS (X : Cx) (st : Stmt) (m : MS) : Prop := PS X st (sD (kwOf X) m)
abbrev PDSs (X : Cx) (st : List Stmt) (m : MS) : Prop := PSs X st (sD (kwOf X) m)

/-! blocks -/
@[simp] def mSkip : MS := fun σ S => some (.nx σ S)
@[simp] def mSeq (a b : MS) : MS := fun σ S => (a σ S).bind fun o => match o with
  | .nx σ1 S1 => b σ1 S1
  | o => some o
theorem ds_nil : PDSs X [] mSkip := pssImp pss_nil fun D σ H ⟨ρ, σd, S, out, hs, he, hm, q⟩ => by
  cases hm
  exact q ρ σ H .refl hs he
theorem seq_of {K : KW} {ma mb : MS} {D : Ends} {σ : L2.St} {H : Hp} (h : sD K (mSeq ma mb) D σ H) : tSeq (sD K ma) (sD K mb) D σ H := by
  obtain ⟨ρ, σd, S, out, hs, he, hm, q⟩ := h
  obtain ⟨o, h1, hm⟩ := Option.bind_eq_some_iff.mp hm
  refine ⟨ρ, σd, S, o, hs, he, h1, ?_⟩
  cases o with
  | nx σ1 S1 => exact fun ρ1 σ' H1 e1 s1 r1 => ⟨ρ1, σ1, S1, out, s1, r1, hm, q.ext e1⟩
  | rt w S1 => cases hm; exact q
  | bk σ1 S1 => cases hm; exact q
  | ct σ1 S1 => cases hm; exact q
theorem ds_cons {ma mb : MS} (h1 : PDS X st ma) (h2 : PDSs X rest mb) : PDSs X (st :: rest) (mSeq ma mb) := pssImp (pss_cons h1 h2) fun _ _ _ h => seq_of h
theorem ds_one {ma : MS} (h1 : PDS X st ma) : PDSs X [st] ma := pss_one h1
theorem ds_never {sts : List Stmt} : PDSs X sts (fun _ _ => none) := pssImp pss_never fun D σ H ⟨ρ, σd, S, out, hs, he, hm, q⟩ => by cases hm
theorem d_never : PDS X st (fun _ _ => none) := psImp ps_never fun D σ H ⟨ρ, σd, S, out, hs, he, hm, q⟩ => by cases hm
/-- a ghost step: a name's object is frozen -/
def mFrzV (i : Nat) : MS := fun σ S => (σ[i]?.bind id).bind fun w => (frz S w).map fun r => .nx (σ.set i (some r.1)) r.2
theorem ds_frz {i : Nat} {m : MS} (h : PDSs X rest m) : PDSs X rest (mSeq (mFrzV i) m) := pssImp h fun D σ H ⟨ρ, σd, S, out, hs, he, hm, q⟩ => by
  obtain ⟨o, h1, hm⟩ := Option.bind_eq_some_iff.mp hm
  obtain ⟨w, h2, h1⟩ := Option.bind_eq_some_iff.mp h1
  rw [Option.map_eq_some_iff] at h1
  obtain ⟨⟨w', S1⟩, h3, h4⟩ := h1
  cases h4
  obtain ⟨ow, h5, h6⟩ := Option.bind_eq_some_iff.mp h2
  have h6' : ow = some w := h6
  subst h6'
  obtain ⟨v, h7, r⟩ := he.get i w h5
  obtain ⟨ρ1, e1, s1, r1⟩ := frz_ok hs r h3
  have hset : σ.set i (some v) = σ := by
    obtain ⟨hl, hv⟩ := List.getElem?_eq_some_iff.mp h7
    rw [← hv, List.set_getElem_self]
  have he1 := (he.ext e1).set r1 i
  rw [hset] at he1
  exact ⟨ρ1, _, S1, out, s1, he1, hm, q.ext e1⟩

/-! small statements -/
@[simp] def mAsg (i : Nat) (m : ME) : MS := fun σ S => (m σ S).map fun r => .nx (σ.set i (some r.1)) r.2
theorem asg_of {K : KW} {i : Nat} {m : ME} {D : Ends} {σ : L2.St} {H : Hp} (h : sD K (mAsg i m) D σ H) : tAsg (tD K m) (gName i) D σ H := by
  obtain ⟨ρ, σd, S, out, hs, he, hm, q⟩ := h
  unfold mAsg at hm
  rw [Option.map_eq_some_iff] at hm
  obtain ⟨⟨w, S1⟩, h1, h2⟩ := hm
  cases h2
  exact ⟨ρ, σd, S, w, S1, hs, he, h1, fun ρ1 v H1 e1 s1 r1 => q ρ1 _ H1 e1 s1 ((he.ext e1).set r1 i)⟩
theorem d_set (i : Nat) {x : Str} {m : ME} {pos' : Pos} (hN : X.N.Nodup) (hx : Loc X.env.scope x) (he : PD X e m) (hi : X.N[i]? = some x := by rfl) (hs : swapsWith e (some (.Name x pos')) pos.line X.env = pure false := by rfl)
    (hf : X.fn x = true ∨ X.env.scope.names.lookup x = some .local := by first | exact .inl rfl | exact .inr rfl) : PDS X (.Assign [.Name x pos'] e pos) (mAsg i m) := psImp (ps_set hN hi hx he hs hf) fun _ _ _ h => asg_of h
@[simp] def mExpr (m : ME) : MS := fun σ S => (m σ S).map fun r => .nx σ r.2
theorem d_expr {m : ME} (he : PD X e m) (hs : swapsWith e none pos.line X.env = pure false := by rfl) : PDS X (.Expr e pos) (mExpr m) := psImp (ps_expr he hs) fun D σ H ⟨ρ, σd, S, out, hs, he, hm, q⟩ => by
  unfold mExpr at hm
  rw [Option.map_eq_some_iff] at hm
  obtain ⟨⟨w, S1⟩, h1, h2⟩ := hm
  cases h2
  exact ⟨ρ, σd, S, w, S1, hs, he, h1, fun ρ1 v H1 e1 s1 r1 => q ρ1 _ H1 e1 s1 (he.ext e1)⟩
@[simp] def mRet (m : ME) : MS := fun σ S => (m σ S).map fun r => .rt r.1 r.2
theorem d_ret {m : ME} (he : PD X e m) : PDS X (.Return (some e) pos) (mRet m) := psImp (ps_ret he) fun D σ H ⟨ρ, σd, S, out, hs, he, hm, q⟩ => by
  unfold mRet at hm
  rw [Option.map_eq_some_iff] at hm
  obtain ⟨⟨w, S1⟩, h1, h2⟩ := hm
  cases h2
  exact ⟨ρ, σd, S, w, S1, hs, he, h1, fun ρ1 v H1 e1 s1 r1 => q ρ1 _ H1 e1 s1 r1⟩
@[simp] def mRetN : MS := fun σ S => some (.rt (.d .none) S)
theorem d_retN : PDS X (.Return none pos) mRetN := psImp ps_retN fun D σ H ⟨ρ, σd, S, out, hs, he, hm, q⟩ => by
  cases hm
  exact q ρ _ H .refl hs .non
@[simp] def mIfS (t : MT) (a b : MS) : MS := fun σ S => (t σ S).bind fun r => if r.1 = true then a σ r.2 else b σ r.2
theorem d_ifS {mt : MT} {ma mb : MS} {as bs : List Stmt} (hc : PDT X c mt) (ha : PDSs X as ma) (hb : PDSs X bs mb) : PDS X (.If c as bs pos) (mIfS mt ma mb) := psImp (ps_if hc ha hb) fun D σ H ⟨ρ, σd, S, out, hs, he, hm, q⟩ => by
  obtain ⟨⟨k, S1⟩, h1, hm⟩ := Option.bind_eq_some_iff.mp hm
  refine ⟨ρ, σd, S, k, S1, hs, he, h1, fun ρ1 H1 e1 s1 => ?_⟩
  cases k with
  | true => rw [if_pos rfl] at hm ⊢; exact ⟨ρ1, σd, S1, out, s1, he.ext e1, hm, q.ext e1⟩
  | false => rw [if_neg Bool.false_ne_true] at hm ⊢; exact ⟨ρ1, σd, S1, out, s1, he.ext e1, hm, q.ext e1⟩
@[simp] def mBreak : MS := fun σ S => some (.bk σ S)
@[simp] def mCont : MS := fun σ S => some (.ct σ S)
theorem d_pass : PDS X (.Pass pos) mSkip := psImp ps_pass fun D σ H ⟨ρ, σd, S, out, hs, he, hm, q⟩ => by
  cases hm
  exact q ρ σ H .refl hs he
theorem d_break : PDS X (.Break pos) mBreak := psImp ps_break fun D σ H ⟨ρ, σd, S, out, hs, he, hm, q⟩ => by
  cases hm
  exact q ρ σ H .refl hs he
theorem d_cont : PDS X (.Continue pos) mCont := psImp ps_continue fun D σ H ⟨ρ, σd, S, out, hs, he, hm, q⟩ => by
  cases hm
  exact q ρ σ H .refl hs he
/-- a, b = x, y -/
@[simp] def mPar2 (i j : Nat) (m : MA) : MS := fun σ S => (m σ S).bind fun r => match r.1 with
  | [u, v] => some (.nx ((σ.set i (some u)).set j (some v)) r.2)
  | _ => none
theorem d_par2 (i j : Nat) {x y : Str} {m : MA} {px py pt : Pos} {kt k2 pt2} (hc : X.calm = true) (hN : X.N.Nodup) (hx : X.env.scope.names.lookup x = some .local) (hy : X.env.scope.names.lookup y = some .local) (ha : PDA X [a, b] m)
    (hw : swappedStores [.Tuple [.Name x px, .Name y py] kt pt] (.Tuple [a, b] k2 pt2) X.env = pure (some [x, y]))
    (hi : X.N[i]? = some x := by rfl) (hj : X.N[j]? = some y := by rfl) (hij : i ≠ j := by decide)
    (hs : swapsWithSole [.Tuple [.Name x px, .Name y py] kt pt] (.Tuple [a, b] k2 pt2) pos.line X.env = pure false := by rfl) :
    PDS X (.Assign [.Tuple [.Name x px, .Name y py] kt pt] (.Tuple [a, b] k2 pt2) pos) (mPar2 i j m) := psImp (ps_par hc hN hi hj hij hx hy ha hw hs) fun D σ H ⟨ρ, σd, S, out, hs, he, hm, q⟩ => by
  obtain ⟨⟨ws, S1⟩, h1, hm⟩ := Option.bind_eq_some_iff.mp hm
  refine ⟨ρ, σd, S, ws, S1, hs, he, h1, fun ρ1 vs H1 e1 s1 r1 => ?_⟩
  simp only at hm
  split at hm
  · rename_i u v
    cases hm
    obtain ⟨y1, y2, rfl, q1, q2⟩ := r1.two
    exact ⟨y1, y2, rfl, q ρ1 _ H1 e1 s1 (((he.ext e1).set q1 i).set q2 j)⟩
  · cases hm
@[simp] def mPar3 (i j l : Nat) (m : MA) : MS := fun σ S => (m σ S).bind fun r => match r.1 with
  | [u, v, w] => some (.nx (((σ.set i (some u)).set j (some v)).set l (some w)) r.2)
  | _ => none
theorem d_par3 (i j l : Nat) {x y z : Str} {m : MA} {px py pz pt : Pos} {kt k2 pt2} (hc : X.calm = true) (hN : X.N.Nodup) (hx : X.env.scope.names.lookup x = some .local) (hy : X.env.scope.names.lookup y = some .local) (hz : X.env.scope.names.lookup z = some .local) (ha : PDA X [a, b, c] m)
    (hw : swappedStores [.Tuple [.Name x px, .Name y py, .Name z pz] kt pt] (.Tuple [a, b, c] k2 pt2) X.env = pure (some [x, y, z]))
    (hi : X.N[i]? = some x := by rfl) (hj : X.N[j]? = some y := by rfl) (hl : X.N[l]? = some z := by rfl) (hij : i ≠ j := by decide) (hil : i ≠ l := by decide) (hjl : j ≠ l := by decide)
    (hs : swapsWithSole [.Tuple [.Name x px, .Name y py, .Name z pz] kt pt] (.Tuple [a, b, c] k2 pt2) pos.line X.env = pure false := by rfl) :
    PDS X (.Assign [.Tuple [.Name x px, .Name y py, .Name z pz] kt pt] (.Tuple [a, b, c] k2 pt2) pos) (mPar3 i j l m) := psImp (ps_par3 hc hN hi hj hl hij hil hjl hx hy hz ha hw hs) fun D σ H ⟨ρ, σd, S, out, hs, he, hm, q⟩ => by
  obtain ⟨⟨ws, S1⟩, h1, hm⟩ := Option.bind_eq_some_iff.mp hm
  refine ⟨ρ, σd, S, ws, S1, hs, he, h1, fun ρ1 vs H1 e1 s1 r1 => ?_⟩
  simp only at hm
  split at hm
  · rename_i u v w
    cases hm
    cases r1 with
    | cons q0 r1 =>
      obtain ⟨y1, y2, rfl, q1, q2⟩ := r1.two
      exact ⟨_, y1, y2, rfl, q ρ1 _ H1 e1 s1 ((((he.ext e1).set q0 i).set q1 j).set q2 l)⟩
  · cases hm

/-! targets -/
abbrev MG := W → Env → Option Env
def gD (K : KW) (g : MG) : TG := fun v σ H Q => ∃ ρ σd S w σ1, SRel K ρ H S ∧ RelE K ρ H σd σ ∧ RelW K ρ H w v ∧ g w σd = some σ1 ∧ ∀ ρ' σ' H', Ext ρ H ρ' H' → SRel K ρ' H' S → RelE K ρ' H' σ1 σ' → Q σ' H'
abbrev PDG (X : Cx) (e : Expr) (g : MG) : Prop := PG X e (gD (kwOf X) g)
theorem pgImp {t t' : TG} (h : PG X e t) (i : ∀ v σ H Q, t' v σ H Q → t v σ H Q) : PG X e t' := ⟨fun pins s σ H v u Q I r q => h.run pins s σ H v u Q I r (i v σ H Q q)⟩
@[simp] def gN (i : Nat) : MG := fun w σ => some (σ.set i (some w))
theorem dg_name (i : Nat) {x : Str} (hN : X.N.Nodup) (hx : Loc X.env.scope x) (hi : X.N[i]? = some x := by rfl) (hf : X.fn x = true ∨ X.env.scope.names.lookup x = some .local := by first | exact .inl rfl | exact .inr rfl) : PDG X (.Name x pos) (gN i) :=
  pgImp (pg_name hN hi hx hf) fun v σ H Q ⟨ρ, σd, S, w, σ1, hs, he, r, hg, q⟩ => by
    cases hg
    exact q ρ _ H .refl hs (he.set r i)
abbrev MGs := List D → Env → Option Env
def gDs (K : KW) (g : MGs) : TGs := fun vs σ H Q => ∃ ρ σd S ds σ1, SRel K ρ H S ∧ RelE K ρ H σd σ ∧ RepL ρ H ds vs ∧ g ds σd = some σ1 ∧ ∀ ρ' σ' H', Ext ρ H ρ' H' → SRel K ρ' H' S → RelE K ρ' H' σ1 σ' → Q σ' H'
abbrev PDGs (X : Cx) (es : List Expr) (g : MGs) : Prop := PGs X es (gDs (kwOf X) g)
theorem pgsImp {t t' : TGs} (h : PGs X es t) (i : ∀ v σ H Q, t' v σ H Q → t v σ H Q) : PGs X es t' := ⟨fun pins s σ H v u Q I r q => h.run pins s σ H v u Q I r (i v σ H Q q)⟩
@[simp] def gNil : MGs := fun ds σ => match ds with
  | [] => some σ
  | _ => none
@[simp] def gCons (g : MG) (r : MGs) : MGs := fun ds σ => match ds with
  | [] => none
  | d :: ds => (g (.d d) σ).bind fun σ1 => r ds σ1
theorem dgs_nil : PDGs X [] gNil := pgsImp pgs_nil fun vs σ H Q ⟨ρ, σd, S, ds, σ1, hs, he, r, hg, q⟩ => by
  cases ds with
  | nil => cases hg; cases r; exact ⟨rfl, q ρ σ H .refl hs he⟩
  | cons d ds => cases hg
theorem dgs_cons {g : MG} {r : MGs} (h1 : PDG X e g) (h2 : PDGs X es r) (hs : (assignEach (e :: es) X.env).map (·.2) = assign e X.env :: (assignEach es X.env).map (·.2) := by rfl) : PDGs X (e :: es) (gCons g r) :=
  pgsImp (pgs_cons h1 h2 hs) fun vs σ H Q ⟨ρ, σd, S, ds, σ1, hs, he, rr, hg, q⟩ => by
    cases ds with
    | nil => cases hg
    | cons d ds =>
      cases rr with
      | cons r1 r2 =>
        obtain ⟨σ2, h3, h4⟩ := Option.bind_eq_some_iff.mp hg
        exact ⟨_, _, rfl, ρ, σd, S, .d d, σ2, hs, he, r1, h3, fun ρ1 σ' H1 e1 s1 q1 => ⟨ρ1, σ2, S, ds, σ1, s1, q1, r2.ext e1, h4, fun ρ2 σ'' H2 e2 s2 q2 => q ρ2 σ'' H2 (e1.trans e2) s2 q2⟩⟩
@[simp] def gTup (n : Nat) (r : MGs) : MG := fun w σ => (asT w).bind fun ds => if decide (ds.length = n) = true then r ds σ else none
theorem dg_tup {k : Nat} {n : Nat} {r : MGs} (hc : X.calm = true) (h : PDGs X es r) (hn : (assignEach es X.env).length = n := by rfl) (hst : (assignEach es X.env).findIdx? (·.1) = none := by rfl) : PDG X (.Tuple es k pos) (gTup n r) :=
  pgImp (pg_tup hc h hn hst) fun v σ H Q ⟨ρ, σd, S, w, σ1, hs, he, rr, hg, q⟩ => by
    obtain ⟨ds, h1, h2⟩ := Option.bind_eq_some_iff.mp hg
    obtain ⟨a, vs, rfl, ht, hr⟩ := asT_rel rr h1
    split at h2
    · rename_i hl
      exact ⟨a, vs, rfl, ht, by rw [← hr.length]; exact of_decide_eq_true hl, ρ, σd, S, ds, σ1, hs, he, hr, h2, q⟩
    · cases h2
@[simp] def mAsgG (g : MG) (m : ME) : MS := fun σ S => (m σ S).bind fun r => (g r.1 σ).map fun σ1 => .nx σ1 r.2
theorem d_asg {tg : Expr} {m : ME} {g : MG} (he : PD X e m) (hg : PDG X tg g) (hs : swapsWithSole [tg] e pos.line X.env = pure false := by rfl) (hw : swappedStores [tg] e X.env = pure none := by rfl)
    (h1 : (assignEach [tg] X.env).map (·.2) = [assign tg X.env] := by rfl) : PDS X (.Assign [tg] e pos) (mAsgG g m) := psImp (ps_asg he hg hs hw h1) fun D σ H ⟨ρ, σd, S, out, hs, he, hm, q⟩ => by
  obtain ⟨⟨w, S1⟩, h1, h2⟩ := Option.bind_eq_some_iff.mp hm
  rw [Option.map_eq_some_iff] at h2
  obtain ⟨σ1, h3, h4⟩ := h2
  cases h4
  exact ⟨ρ, σd, S, w, S1, hs, he, h1, fun ρ1 v H1 e1 s1 r1 => ⟨ρ1, σd, S1, w, σ1, s1, he.ext e1, r1, h3, fun ρ2 σ' H2 e2 s2 r2 => q ρ2 σ' H2 (e1.trans e2) s2 r2⟩⟩

/-! o[i] = v -/
abbrev GS := Sto → W → W → W → Option Sto
def rDS (K : KW) (g : GS) : TSet := fun o i v H Q => ∃ ρ S x y z S', SRel K ρ H S ∧ RelW K ρ H x o ∧ RelW K ρ H y i ∧ RelW K ρ H z v ∧ g S x y z = some S' ∧ ∀ ρ' H', Ext ρ H ρ' H' → SRel K ρ' H' S' → Q H'
abbrev SetD (X : Cx) (g : GS) : Prop := PSet X (rDS (kwOf X) g)
@[simp] def mSetI (g : GS) (mo mi mv : ME) : MS := fun σ S => (mv σ S).bind fun v => (mo σ v.2).bind fun o => (mi σ o.2).bind fun i => (g i.2 o.1 i.1 v.1).map fun S' => .nx σ S'
theorem d_setI {o i : Expr} {mo mi mv : ME} {g : GS} {tpos : Pos} (hv : PD X e mv) (ho : PD X o mo) (hi : PD X i mi) (hs : SetD X g)
    (ha : ∀ v, assign (.Subscript o i tpos) X.env v = (do
      let ov ← holding [v] (eval o X.env)
      let iv ← holding [v, ov] (eval i X.env)
      standAt tpos
      holding [v, ov, iv] (setItem ov iv v)
      release [v, ov, iv] []) := by intro _; rfl) (hsw : swapsWithSole [.Subscript o i tpos] e pos.line X.env = pure false := by rfl) (hw : swappedStores [.Subscript o i tpos] e X.env = pure none := by rfl)
    (h1 : (assignEach [.Subscript o i tpos] X.env).map (·.2) = [assign (.Subscript o i tpos) X.env] := by rfl) : PDS X (.Assign [.Subscript o i tpos] e pos) (mSetI g mo mi mv) :=
  psImp (ps_asg hv (pg_sub ho hi hs ha) hsw hw h1) fun D σ H ⟨ρ, σd, S, out, hs, he, hm, q⟩ => by
    obtain ⟨⟨w1, S1⟩, h1, hm⟩ := Option.bind_eq_some_iff.mp hm
    obtain ⟨⟨w2, S2⟩, h2, hm⟩ := Option.bind_eq_some_iff.mp hm
    obtain ⟨⟨w3, S3⟩, h3, hm⟩ := Option.bind_eq_some_iff.mp hm
    rw [Option.map_eq_some_iff] at hm
    obtain ⟨S4, h4, h5⟩ := hm
    cases h5
    refine ⟨ρ, σd, S, w1, S1, hs, he, h1, fun ρ1 v1 H1 e1 s1 r1 => ⟨ρ1, σd, S1, w2, S2, s1, he.ext e1, h2, fun ρ2 v2 H2 e2 s2 r2 => ⟨ρ2, σd, S2, w3, S3, s2, he.ext (e1.trans e2), h3, fun ρ3 v3 H3 e3 s3 r3 => ?_⟩⟩⟩
    exact ⟨ρ3, S3, w2, w3, w1, S4, s3, r2.ext e3, r3, r1.ext (e2.trans e3), h4, fun ρ4 H4 e4 s4 => q ρ4 σ H4 (((e1.trans e2).trans e3).trans e4) s4 (he.ext (((e1.trans e2).trans e3).trans e4))⟩

/-! methods of what is built in -/
abbrev GM := Sto → W → List W → Option (W × Sto)
def rDM (K : KW) (g : GM) : V → List V → Hp → VK → Prop := fun x vs H Q => ∃ ρ S w ws w' S', SRel K ρ H S ∧ RelW K ρ H w x ∧ RelWs K ρ H ws vs ∧ g S w ws = some (w', S') ∧ ∀ ρ' z H', Ext ρ H ρ' H' → SRel K ρ' H' S' → RelW K ρ' H' w' z → Q z H'
abbrev MtD (X : Cx) (id : String) (g : GM) : Prop := MtR X id (rDM (kwOf X) g)
/-- ty: of the type -/
@[simp] def mMeth (ty : Sto → W → Bool) (g : GM) (o : ME) (m : MA) : ME := fun σ S => (o σ S).bind fun r => if ty r.2 r.1 = true then (m σ r.2).bind fun q => g q.2 r.1 q.1 else none
def TyD (X : Cx) (T : String) (ty : Sto → W → Bool) : Prop := ∀ ρ H S w v, SRel (kwOf X) ρ H S → RelW (kwOf X) ρ H w v → ty S w = true → tyV X.K T v H
theorem d_meth {o : Expr} {name : Str} {apos cpos : Pos} {T id : String} {g : GM} {ty : Sto → W → Bool} {mo : ME} {m : MA} (pa : PlainAttrs T) (slot : Slot T name id) (hty : typeOf (.builtin id) = pure (.type "method_descriptor")) (hm : MtD X id g) (hT : TyD X T ty) (ho : PD X o mo) (ha : PDA X (e :: es) m)
    (hbase : attributeBase o name X.env (eval o X.env) = eval o X.env := by rfl)
    (hfew : ((backTo cpos (starEach (e :: es) X.env)).all (fun x => !x.1) && (backToKw cpos (keywordEach [] X.env)).all (fun x => x.1.isSome)
      && decide ((e :: es).length + ([] : List Keyword).length + (if ([] : List Keyword).isEmpty then 0 else 1) < 30)) = true := by rfl)
    (hline : (apos.endLine == cpos.line) = true := by rfl) (hs : starEach (e :: es) X.env = (false, eval e X.env) :: starEach es X.env := by rfl) (hplain : (backTo cpos (starEach es X.env)).any (·.1) = false := by rfl) :
    PD X (.Call (.Attribute o name apos) (e :: es) [] cpos) (mMeth ty g mo m) := peImp (pe_bm pa slot hty hm ho ha hbase hfew hline hs hplain) fun σ H Q ⟨ρ, σd, S, w, S', hs, he, hm, q⟩ => by
  obtain ⟨⟨w1, S1⟩, h1, hm⟩ := Option.bind_eq_some_iff.mp hm
  dsimp only at hm
  split at hm
  · rename_i ht
    obtain ⟨⟨ws, S2⟩, h2, hm⟩ := Option.bind_eq_some_iff.mp hm
    refine ⟨ρ, σd, S, w1, S1, hs, he, h1, fun ρ1 v1 H1 e1 s1 r1 => ⟨hT ρ1 H1 S1 w1 v1 s1 r1 ht, ρ1, σd, S1, ws, S2, s1, he.ext e1, h2, fun ρ2 vs H2 e2 s2 r2 => ?_⟩⟩
    exact ⟨ρ2, S2, w1, ws, w, S', s2, r1.ext e2, r2, hm, fun ρ3 z H3 e3 s3 r3 => q ρ3 z H3 ((e1.trans e2).trans e3) s3 r3⟩
  · cases hm
theorem d_meth0 {o : Expr} {name : Str} {apos cpos : Pos} {T id : String} {g : GM} {ty : Sto → W → Bool} {mo : ME} (pa : PlainAttrs T) (slot : Slot T name id) (hty : typeOf (.builtin id) = pure (.type "method_descriptor")) (hm : MtD X id g) (hT : TyD X T ty) (ho : PD X o mo)
    (hbase : attributeBase o name X.env (eval o X.env) = eval o X.env := by rfl) (hline : (apos.endLine == cpos.line) = true := by rfl) :
    PD X (.Call (.Attribute o name apos) [] [] cpos) (mMeth ty g mo mNil) := peImp (pe_bm0 pa slot hty hm ho hbase hline) fun σ H Q ⟨ρ, σd, S, w, S', hs, he, hm, q⟩ => by
  obtain ⟨⟨w1, S1⟩, h1, hm⟩ := Option.bind_eq_some_iff.mp hm
  dsimp only at hm
  split at hm
  · rename_i ht
    exact ⟨ρ, σd, S, w1, S1, hs, he, h1, fun ρ1 v1 H1 e1 s1 r1 => ⟨hT ρ1 H1 S1 w1 v1 s1 r1 ht, ρ1, S1, w1, [], w, S', s1, r1, .nil, hm, fun ρ2 z H2 e2 s2 r2 => q ρ2 z H2 (e1.trans e2) s2 r2⟩⟩
  · cases hm

/-! what is walked -/
def ItOk (K : KW) (ρ0 : Rho) (H0 : Hp) (J : It) (ds : List D) : Prop := ∀ ρ H S, Ext ρ0 H0 ρ H → SRel K ρ H S → ∀ i : Nat,
  (ds.length ≤ i → J.stop i H) ∧ ∀ d, ds[i]? = some d → J.go i H ∧ ∀ x H', J.yld i H x H' → Gr H H' ∧ Rep ρ H' d x
theorem ItOk.ext {K : KW} {ρ ρ' : Rho} {H H' : Hp} {J : It} {ds : List D} (h : ItOk K ρ H J ds) (e : Ext ρ H ρ' H') : ItOk K ρ' H' J ds := fun ρ2 H2 S e2 s2 => h ρ2 H2 S (e.trans e2) s2
abbrev MI := Env → Sto → Option (List D × Sto)
def iD (K : KW) (m : MI) : TI := fun σ H R => ∃ ρ σd S ds S', SRel K ρ H S ∧ RelE K ρ H σd σ ∧ m σd S = some (ds, S') ∧ ∀ ρ' J H', Ext ρ H ρ' H' → SRel K ρ' H' S' → ItOk K ρ' H' J ds → R J H'
abbrev PDI (X : Cx) (tg e : Expr) (m : MI) : Prop := PI X tg e (iD (kwOf X) m)
theorem piImp {tg : Expr} {t t' : TI} (h : PI X tg e t) (i : ∀ σ H R, t' σ H R → t σ H R) : PI X tg e t' := ⟨fun pins s σ H R I q => h.run pins s σ H R I (i σ H R q)⟩
/-- a list that nobody changes -/
@[simp] def asP : W → Option (List D)
  | .d (.list xs) => some xs
  | _ => none
@[simp] def iL (m : ME) : MI := fun σ S => (m σ S).bind fun r => (asP r.1).map fun ds => (ds, r.2)
theorem SqL.inj1 {K : KW} {H : Hp} {a : Addr} {xs ys : List V} (h : H a = some (.lst xs)) (n : K.k.lookup a = none) (q : SqL K.k H a ys) : ys = xs := by
  rcases q with (q | ⟨o, q⟩) | ⟨o, its, k, q, _⟩
  · rw [h] at q; cases q; rfl
  · rw [h] at q; cases q
  · rw [n] at q; cases q
end
end DL

set_option Elab.async false
set_option linter.all false
set_option maxRecDepth 100000
set_option autoImplicit false
/-! The data layer, 4: what is walked, loops, comprehensions, defs. -/
noncomputable section
namespace DL
open PySem PySem.Spec PyProof.Rows L2

section
variable {K : KW} {ρ : Rho} {H : Hp} {S : Sto}
/-- a list or tuple whose items stand, whatever comes -/
theorem lst_stays {a : Addr} {vs : List V} (h : H a = some (.lst vs)) (n : ρ.Fr a) {ρ' : Rho} {H' : Hp} (e : Ext ρ H ρ' H') : SqL K.k H' a vs := .inl (.inl (e.at h n).1)
theorem itl_ok {a : Addr} {ds : List D} {vs : List V} (h : ∀ ρ' H', Ext ρ H ρ' H' → SqL K.k H' a vs) (r : RepL ρ H ds vs) : ItOk K ρ H (Itl K.k a) ds := fun ρ' H' S' e s i => by
  have q := h ρ' H' e
  have rl := r.length
  refine ⟨fun hl => ⟨vs, q, by omega⟩, fun d hd => ?_⟩
  obtain ⟨v, hv, rv⟩ := r.get hd
  refine ⟨⟨vs, v, q, hv⟩, fun x H'' y => ?_⟩
  obtain ⟨rfl, y⟩ := y
  have := y vs q
  rw [hv] at this; cases this
  exact ⟨Gr.refl, rv.ext e⟩
theorem itt_ok {a : Addr} {ds : List D} {vs : List V} (h : ∀ ρ' H', Ext ρ H ρ' H' → SqT K.k H' a vs) (r : RepL ρ H ds vs) : ItOk K ρ H (Itt K.k a) ds := fun ρ' H' S' e s i => by
  have q := h ρ' H' e
  have rl := r.length
  refine ⟨fun hl => ⟨vs, q, by omega⟩, fun d hd => ?_⟩
  obtain ⟨v, hv, rv⟩ := r.get hd
  refine ⟨⟨vs, v, q, hv⟩, fun x H'' y => ?_⟩
  obtain ⟨rfl, y⟩ := y
  have := y vs q
  rw [hv] at this; cases this
  exact ⟨Gr.refl, rv.ext e⟩
def rangeD (lo : Int) : Nat → List D
  | 0 => []
  | n + 1 => .int lo :: rangeD (lo + 1) n
theorem rangeD_len (n : Nat) : ∀ lo, (rangeD lo n).length = n := by
  induction n with
  | zero => intro; rfl
  | succ n ih => intro lo; simp [rangeD, ih]
theorem rangeD_get : ∀ (n i : Nat) (lo : Int), i < n → (rangeD lo n)[i]? = some (.int (lo + i)) := by
  intro n
  induction n with
  | zero => intro i lo h; omega
  | succ n ih =>
    intro i lo h
    cases i with
    | zero => simp [rangeD]
    | succ i =>
      simp only [rangeD, List.getElem?_cons_succ]
      rw [ih i (lo + 1) (by omega)]
      congr 2
      omega
theorem itr_ok {lo : Int} {n : Nat} : ItOk K ρ H (Itr lo n) (rangeD lo n) := fun ρ' H' S' e s i => by
  refine ⟨fun hl => by rw [rangeD_len] at hl; exact hl, fun d hd => ?_⟩
  have hi : i < n := by
    have := (List.getElem?_eq_some_iff.mp hd).1
    rw [rangeD_len] at this; exact this
  rw [rangeD_get n i lo hi] at hd
  cases hd
  refine ⟨hi, fun x H'' y => ?_⟩
  obtain ⟨rfl, rfl⟩ := y
  exact ⟨Gr.refl, .int _⟩
def enumD (lo : Nat) : List D → List D
  | [] => []
  | d :: ds => .tuple [.int lo, d] :: enumD (lo + 1) ds
theorem enumD_get : ∀ (ds : List D) (lo i : Nat), (enumD lo ds)[i]? = ds[i]?.map fun d => PyData.tuple [.int ((lo + i : Nat) : Int), d] := by
  intro ds
  induction ds with
  | nil => intro lo i; rfl
  | cons d ds ih =>
    intro lo i
    cases i with
    | zero => rfl
    | succ i =>
      simp only [enumD, List.getElem?_cons_succ]
      rw [ih]
      congr 1
      funext d
      congr 3
      omega
theorem enumD_len (ds : List D) : ∀ lo, (enumD lo ds).length = ds.length := by
  induction ds with
  | nil => intro; rfl
  | cons d ds ih => intro lo; simp [enumD, ih]
theorem ite_ok {a : Addr} {ds : List D} {vs : List V} (h : ∀ ρ' H', Ext ρ H ρ' H' → SqL K.k H' a vs) (r : RepL ρ H ds vs) : ItOk K ρ H (Ite K.k a) (enumD 0 ds) := fun ρ' H' S' e s i => by
  have q := h ρ' H' e
  have rl := r.length
  refine ⟨fun hl => ⟨vs, q, by rw [enumD_len] at hl; omega⟩, fun d hd => ?_⟩
  rw [enumD_get, Option.map_eq_some_iff] at hd
  obtain ⟨d0, hd, rfl⟩ := hd
  obtain ⟨v, hv, rv⟩ := r.get hd
  refine ⟨⟨vs, v, q, hv⟩, fun x H'' y => ?_⟩
  obtain ⟨T, x0, rfl, hT, rfl, y⟩ := y
  have := y vs q
  rw [hv] at this; cases this
  refine ⟨Gr.new hT, .tup upd_same (s.fresh hT) (.cons ?_ (.cons ((rv.ext e).ext (Ext.new hT)) .nil))⟩
  rw [Nat.zero_add]
  exact .int _
def zipD : List D → List D → List D
  | a :: as, b :: bs => .tuple [a, b] :: zipD as bs
  | _, _ => []
theorem zipD_get : ∀ (as bs : List D) (i : Nat) (d : D), (zipD as bs)[i]? = some d → ∃ x y, as[i]? = some x ∧ bs[i]? = some y ∧ d = .tuple [x, y] := by
  intro as
  induction as with
  | nil => intro bs i d h; simp [zipD] at h
  | cons a as ih =>
    intro bs i d h
    cases bs with
    | nil => simp [zipD] at h
    | cons b bs =>
      cases i with
      | zero => simp [zipD] at h; exact ⟨a, b, rfl, rfl, h.symm⟩
      | succ i => simp only [zipD, List.getElem?_cons_succ] at h ⊢; exact ih bs i d h
theorem zipD_len : ∀ (as bs : List D), (zipD as bs).length = min as.length bs.length := by
  intro as
  induction as with
  | nil => intro bs; simp [zipD]
  | cons a as ih => intro bs; cases bs with | nil => simp [zipD] | cons b bs => simp [zipD, ih]
theorem itz_ok {a b : Addr} {ds es : List D} {vs us : List V} (h : ∀ ρ' H', Ext ρ H ρ' H' → SqL K.k H' a vs) (h' : ∀ ρ' H', Ext ρ H ρ' H' → SqL K.k H' b us) (r : RepL ρ H ds vs) (r' : RepL ρ H es us) : ItOk K ρ H (Itz K.k a b) (zipD ds es) := fun ρ' H' S' e s i => by
  have q := h ρ' H' e
  have q' := h' ρ' H' e
  have rl := r.length
  have rl' := r'.length
  refine ⟨fun hl => ⟨vs, us, q, q', by rw [zipD_len] at hl; omega⟩, fun d hd => ?_⟩
  obtain ⟨x, y, hx, hy, rfl⟩ := zipD_get _ _ _ _ hd
  obtain ⟨v, hv, rv⟩ := r.get hx
  obtain ⟨u, hu, ru⟩ := r'.get hy
  refine ⟨⟨vs, us, v, u, q, q', hv, hu⟩, fun x0 H'' y0 => ?_⟩
  obtain ⟨T, x1, y1, rfl, hT, rfl, z1, z2⟩ := y0
  have t1 := z1 vs q
  rw [hv] at t1; cases t1
  have t2 := z2 us q'
  rw [hu] at t2; cases t2
  exact ⟨Gr.new hT, .tup upd_same (s.fresh hT) (.cons ((rv.ext e).ext (Ext.new hT)) (.cons ((ru.ext e).ext (Ext.new hT)) .nil))⟩
theorem itzT_ok {a b : Addr} {ds es : List D} {vs us : List V} (h : ∀ ρ' H', Ext ρ H ρ' H' → SqT K.k H' a vs) (h' : ∀ ρ' H', Ext ρ H ρ' H' → SqT K.k H' b us) (r : RepL ρ H ds vs) (r' : RepL ρ H es us) : ItOk K ρ H (RZ.ItzT K.k a b) (zipD ds es) := fun ρ' H' S' e s i => by
  have q := h ρ' H' e
  have q' := h' ρ' H' e
  have rl := r.length
  have rl' := r'.length
  refine ⟨fun hl => ⟨vs, us, q, q', by rw [zipD_len] at hl; omega⟩, fun d hd => ?_⟩
  obtain ⟨x, y, hx, hy, rfl⟩ := zipD_get _ _ _ _ hd
  obtain ⟨v, hv, rv⟩ := r.get hx
  obtain ⟨u, hu, ru⟩ := r'.get hy
  refine ⟨⟨vs, us, v, u, q, q', hv, hu⟩, fun x0 H'' y0 => ?_⟩
  obtain ⟨T, x1, y1, rfl, hT, rfl, z1, z2⟩ := y0
  have t1 := z1 vs q
  rw [hv] at t1; cases t1
  have t2 := z2 us q'
  rw [hu] at t2; cases t2
  exact ⟨Gr.new hT, .tup upd_same (s.fresh hT) (.cons ((rv.ext e).ext (Ext.new hT)) (.cons ((ru.ext e).ext (Ext.new hT)) .nil))⟩
theorem itv_ok {a : Addr} {ds : List D} {vs : List V} (h : ∀ ρ' H', Ext ρ H ρ' H' → SqL K.k H' a vs) (r : RepL ρ H ds vs) : ItOk K ρ H (Itv K.k a vs.length) ds.reverse := fun ρ' H' S' e s i => by
  have q := h ρ' H' e
  have rl := r.length
  refine ⟨fun hl => by rw [List.length_reverse] at hl; show vs.length ≤ i; omega, fun d hd => ?_⟩
  have hi : i < ds.length := by
    have := (List.getElem?_eq_some_iff.mp hd).1
    simpa using this
  rw [List.getElem?_reverse hi] at hd
  obtain ⟨v, hv, rv⟩ := r.get hd
  rw [rl] at hv
  refine ⟨⟨by omega, vs, v, q, hv⟩, fun x H'' y => ?_⟩
  obtain ⟨rfl, y⟩ := y
  have := y vs q
  rw [hv] at this; cases this
  exact ⟨Gr.refl, rv.ext e⟩
end

/-- data that is walked: a list that nobody changes (with its standing) -/
theorem asP_rel {K : KW} {ρ : Rho} {H : Hp} {w : W} {v : V} {ds : List D} (r : RelW K ρ H w v) (h : asP w = some ds) : ∃ a vs, v = .ref a ∧ (∀ ρ' H', Ext ρ H ρ' H' → SqL K.k H' a vs) ∧ RepL ρ H ds vs := by
  cases w with
  | d x =>
    cases x with
    | list xs =>
      cases h
      cases r with
      | lst h1 h2 h3 => exact ⟨_, _, rfl, fun ρ' H' e => lst_stays h1 h2 e, h3⟩
    | _ => cases h
  | _ => cases h
theorem asT_stays {K : KW} {ρ : Rho} {H : Hp} {w : W} {v : V} {ds : List D} (r : RelW K ρ H w v) (h : asT w = some ds) : ∃ a vs, v = .ref a ∧ (∀ ρ' H', Ext ρ H ρ' H' → SqT K.k H' a vs) ∧ RepL ρ H ds vs := by
  cases w with
  | d x =>
    cases x with
    | tuple xs =>
      cases h
      cases r with
      | tup h1 h2 h3 => exact ⟨_, _, rfl, fun ρ' H' e => .inl (.inl (e.at h1 h2).1), h3⟩
    | _ => cases h
  | ct xs =>
    cases h
    obtain ⟨a, vs, e, h1, h2⟩ := r
    exact ⟨a, vs, e, fun _ H' _ => h1 H', h2.rep⟩
  | ft xs =>
    cases h
    obtain ⟨a, o, vs, e, n, h1, c1, c2, h2⟩ := r
    exact ⟨a, vs, e, fun ρ' H' e2 => .inl (.inr ⟨o, (e2.at h1 n).1⟩), h2⟩
  | _ => cases h
section
variable {X : Cx} {e a b c tg : Expr} {pos : Pos} {st : Stmt} {rest : List Stmt} {es : List Expr}
theorem di_list {m : ME} (he : PD X e m) : PDI X tg e (iL m) := piImp (pi_list he) fun σ H R ⟨ρ, σd, S, ds, S', hs, hE, hm, q⟩ => by
  obtain ⟨⟨w1, S1⟩, h1, hm⟩ := Option.bind_eq_some_iff.mp hm
  rw [Option.map_eq_some_iff] at hm
  obtain ⟨ds', h2, h3⟩ := hm
  cases h3
  refine ⟨ρ, σd, S, w1, S1, hs, hE, h1, fun ρ1 v H1 e1 s1 r1 => ?_⟩
  obtain ⟨a, vs, rfl, hq, hr⟩ := asP_rel r1 h2
  exact ⟨a, rfl, ⟨vs, hq ρ1 H1 .refl⟩, q ρ1 _ H1 e1 s1 (itl_ok hq hr)⟩
@[simp] def iT (m : ME) : MI := fun σ S => (m σ S).bind fun r => (asT r.1).map fun ds => (ds, r.2)
theorem di_tup {m : ME} (he : PD X e m) : PDI X tg e (iT m) := piImp (pi_tup he) fun σ H R ⟨ρ, σd, S, ds, S', hs, hE, hm, q⟩ => by
  obtain ⟨⟨w1, S1⟩, h1, hm⟩ := Option.bind_eq_some_iff.mp hm
  rw [Option.map_eq_some_iff] at hm
  obtain ⟨ds', h2, h3⟩ := hm
  cases h3
  refine ⟨ρ, σd, S, w1, S1, hs, hE, h1, fun ρ1 v H1 e1 s1 r1 => ?_⟩
  obtain ⟨a, vs, rfl, hq, hr⟩ := asT_stays r1 h2
  exact ⟨a, rfl, ⟨vs, hq ρ1 H1 .refl⟩, q ρ1 _ H1 e1 s1 (itt_ok hq hr)⟩
/-- a list or a tuple -/
def big62 (i : Int) : Bool := says (-(2 ^ 62) ≤ i ∧ i < 2 ^ 62)
@[simp] def iR1 (m : MA) : MI := fun σ S => (m σ S).bind fun r => match r.1 with
  | [.d (.int j)] => if big62 j = true then some (rangeD 0 j.toNat, r.2) else none
  | _ => none
@[simp] def iR2 (m : MA) : MI := fun σ S => (m σ S).bind fun r => match r.1 with
  | [.d (.int i), .d (.int j)] => if (big62 i && big62 j) = true then some (rangeD i (j - i).toNat, r.2) else none
  | _ => none
theorem di_range1 {m : MA} {p : Pos} (hg : Gl X "range") (hm : X.mg "range" = none) (ha : PDA X [a] m) (hs : starEach [a] X.env = [(false, eval a X.env)] := by rfl) : PDI X tg (.Call (.Name "range" p) [a] [] pos) (iR1 m) :=
  piImp (pi_range1 hg hm ha hs) fun σ H R ⟨ρ, σd, S, ds, S', hs, hE, hm, q⟩ => by
    obtain ⟨⟨ws, S1⟩, h1, hm⟩ := Option.bind_eq_some_iff.mp hm
    dsimp only at hm
    split at hm
    · rename_i j
      obtain ⟨hb, hm⟩ := some_if hm
      cases hm
      have hb' := says_of hb
      refine ⟨ρ, σd, S, _, _, hs, hE, h1, fun ρ1 vs H1 e1 s1 r1 => ?_⟩
      obtain ⟨v, rfl, r⟩ := r1.one
      cases r
      exact ⟨j, rfl, hb'.1, hb'.2, q ρ1 _ H1 e1 s1 itr_ok⟩
    · cases hm
theorem di_range2 {m : MA} {p : Pos} (hg : Gl X "range") (hm : X.mg "range" = none) (ha : PDA X [a, b] m) (hs : starEach [a, b] X.env = [(false, eval a X.env), (false, eval b X.env)] := by rfl) (hs2 : starEach [b] X.env = [(false, eval b X.env)] := by rfl) : PDI X tg (.Call (.Name "range" p) [a, b] [] pos) (iR2 m) :=
  piImp (pi_range2 hg hm ha hs hs2) fun σ H R ⟨ρ, σd, S, ds, S', hs, hE, hm, q⟩ => by
    obtain ⟨⟨ws, S1⟩, h1, hm⟩ := Option.bind_eq_some_iff.mp hm
    dsimp only at hm
    split at hm
    · rename_i i j
      obtain ⟨hb, hm⟩ := some_if hm
      cases hm
      rw [Bool.and_eq_true] at hb
      have hb1 := says_of hb.1
      have hb2 := says_of hb.2
      refine ⟨ρ, σd, S, _, _, hs, hE, h1, fun ρ1 vs H1 e1 s1 r1 => ?_⟩
      obtain ⟨v, u, rfl, r, r'⟩ := r1.two
      cases r
      cases r'
      exact ⟨i, j, rfl, ⟨hb1.1, hb1.2, hb2.1, hb2.2⟩, q ρ1 _ H1 e1 s1 itr_ok⟩
    · cases hm
def iEnumD (m : MA) : MI := fun σ S => (m σ S).bind fun r => match r.1 with
  | [w] => (asP w).map fun ds => (enumD 0 ds, r.2)
  | _ => none
theorem di_enum {m : MA} {p tpos : Pos} {elts : List Expr} {kk : Nat} (hg : Gl X "enumerate") (hm : X.mg "enumerate" = none) (ha : PDA X [e] m) (hs : starEach [e] X.env = [(false, eval e X.env)] := by rfl) :
    PDI X (.Tuple elts kk tpos) (.Call (.Name "enumerate" p) [e] [] pos) (iEnumD m) := piImp (pi_enum hg hm ha hs) fun σ H R ⟨ρ, σd, S, ds, S', hs, hE, hm, q⟩ => by
  obtain ⟨⟨ws, S1⟩, h1, hm⟩ := Option.bind_eq_some_iff.mp hm
  dsimp only at hm
  split at hm
  · rename_i w
    rw [Option.map_eq_some_iff] at hm
    obtain ⟨ds', h2, h3⟩ := hm
    cases h3
    refine ⟨ρ, σd, S, _, _, hs, hE, h1, fun ρ1 vs H1 e1 s1 r1 => ?_⟩
    obtain ⟨v, rfl, r⟩ := r1.one
    obtain ⟨a, us, rfl, hq, hr⟩ := asP_rel r h2
    exact ⟨a, us, rfl, hq ρ1 H1 .refl, q ρ1 _ H1 e1 s1 (ite_ok hq hr)⟩
  · cases hm
def iZipD (m : MA) : MI := fun σ S => (m σ S).bind fun r => match r.1 with
  | [u, v] => match asP u, asP v with
    | some ds, some es => some (zipD ds es, r.2)
    | _, _ => match asT u, asT v with
      | some ds, some es => some (zipD ds es, r.2)
      | _, _ => none
  | _ => none
theorem di_zip {e2 : Expr} {m : MA} {p tpos : Pos} {elts : List Expr} {kk : Nat} (hg : Gl X "zip") (hm : X.mg "zip" = none) (ha : PDA X [e, e2] m)
    (hs : starEach [e, e2] X.env = (false, eval e X.env) :: starEach [e2] X.env := by rfl) (hpl : (backTo pos (starEach [e2] X.env)).any (·.1) = false := by rfl) :
    PDI X (.Tuple elts kk tpos) (.Call (.Name "zip" p) [e, e2] [] pos) (iZipD m) := piImp (RZ.pi_zipA hg hm ha hs hpl) fun σ H R ⟨ρ, σd, S, ds, S', hs, hE, hm, q⟩ => by
  obtain ⟨⟨ws, S1⟩, h1, hm⟩ := Option.bind_eq_some_iff.mp hm
  dsimp only at hm
  split at hm
  · rename_i u v
    refine ⟨ρ, σd, S, _, _, hs, hE, h1, fun ρ1 vs H1 e1 s1 r1 => ?_⟩
    obtain ⟨x, y, rfl, rx, ry⟩ := r1.two
    split at hm
    · rename_i ds' es' h2 h3
      cases hm
      obtain ⟨a, us, rfl, hq, hr⟩ := asP_rel rx h2
      obtain ⟨a', us', rfl, hq', hr'⟩ := asP_rel ry h3
      exact ⟨a, a', us, us', rfl, .inl ⟨hq ρ1 H1 .refl, hq' ρ1 H1 .refl, q ρ1 _ H1 e1 s1 (itz_ok hq hq' hr hr')⟩⟩
    · split at hm
      · rename_i ds' es' h2 h3
        cases hm
        obtain ⟨a, us, rfl, hq, hr⟩ := asT_stays rx h2
        obtain ⟨a', us', rfl, hq', hr'⟩ := asT_stays ry h3
        exact ⟨a, a', us, us', rfl, .inr ⟨hq ρ1 H1 .refl, hq' ρ1 H1 .refl, q ρ1 _ H1 e1 s1 (itzT_ok hq hq' hr hr')⟩⟩
      · cases hm
  · cases hm

/-! for -/
@[simp] def forM (g : MG) (b : MS) : List D → MS
  | [], σ, S => some (.nx σ S)
  | d :: ds, σ, S => (g (.d d) σ).bind fun σ1 => (b σ1 S).bind fun o => match o with
    | .nx σ2 S2 => forM g b ds σ2 S2
    | .ct σ2 S2 => forM g b ds σ2 S2
    | .bk σ2 S2 => some (.nx σ2 S2)
    | .rt w S2 => some (.rt w S2)
@[simp] def mFor (mi : MI) (g : MG) (b : MS) : MS := fun σ S => (mi σ S).bind fun r => forM g b r.1 σ r.2
theorem for_of {K : KW} {mi : MI} {g : MG} {mb : MS} {D' : Ends} {σ : L2.St} {H : Hp} (h : sD K (mFor mi g mb) D' σ H) : tFor (iD K mi) (gD K g) (sD K mb) D' σ H := by
  obtain ⟨ρ, σd, S, out, hs, he, hm, q⟩ := h
  obtain ⟨⟨ds, S1⟩, h1, hm⟩ := Option.bind_eq_some_iff.mp hm
  refine ⟨ρ, σd, S, ds, S1, hs, he, h1, fun ρ1 J H1 e1 s1 iok => ?_⟩
  refine ⟨fun i m σ H => m = ds.length - i ∧ ∃ ρ' σd' S', Ext ρ1 H1 ρ' H ∧ SRel K ρ' H S' ∧ RelE K ρ' H σd' σ ∧ forM g mb (ds.drop i) σd' S' = some out, ⟨ds.length, rfl, ρ1, σd, S1, .refl, s1, he.ext e1, by simpa using hm⟩, ?_⟩
  rintro i m σ2 H2 ⟨rfl, ρ2, σd2, S2, e2, s2, he2, hf⟩
  obtain ⟨stop, go⟩ := iok ρ2 H2 S2 e2 s2 i
  by_cases hi : i < ds.length
  · obtain ⟨d, hd⟩ : ∃ d, ds[i]? = some d := ⟨ds[i], by simp [hi]⟩
    obtain ⟨hgo, hy⟩ := go d hd
    have hdr : ds.drop i = d :: ds.drop (i + 1) := by
      rw [List.drop_eq_getElem_cons hi]
      congr 1
      have := List.getElem?_eq_getElem hi
      rw [this] at hd
      exact Option.some.inj hd
    rw [hdr] at hf
    obtain ⟨σ3, h3, hf⟩ := Option.bind_eq_some_iff.mp hf
    obtain ⟨o, h4, hf⟩ := Option.bind_eq_some_iff.mp hf
    refine .inr ⟨hgo, fun σ' H' => ∃ ρ' σd' S', Ext ρ1 H1 ρ' H' ∧ SRel K ρ' H' S' ∧ RelE K ρ' H' σd' σ' ∧ forM g mb (ds.drop (i + 1)) σd' S' = some out, ?_, ?_⟩
    · rintro σ' H' hN
      exact ⟨ds.length - (i + 1), by omega, rfl, hN⟩
    · intro x H3 hyl
      obtain ⟨gr, rx⟩ := hy x H3 hyl
      have e3 : Ext ρ2 H2 ρ2 H3 := Ext.gr gr
      refine ⟨ρ2, σd2, S2, .d d, σ3, s2.gr gr, he2.ext e3, rx, h3, fun ρ4 σ4 H4 e4 s4 r4 => ?_⟩
      refine ⟨ρ4, σ3, S2, o, s4, r4, h4, ?_⟩
      have e14 : Ext ρ1 H1 ρ4 H4 := (e2.trans e3).trans e4
      cases o with
      | nx σ5 S5 => exact fun ρ6 σ6 H6 e6 s6 r6 => ⟨ρ6, σ5, S5, e14.trans e6, s6, r6, hf⟩
      | ct σ5 S5 => exact fun ρ6 σ6 H6 e6 s6 r6 => ⟨ρ6, σ5, S5, e14.trans e6, s6, r6, hf⟩
      | bk σ5 S5 =>
        cases hf
        exact fun ρ6 σ6 H6 e6 s6 r6 => q ρ6 σ6 H6 ((e1.trans e14).trans e6) s6 r6
      | rt w S5 =>
        cases hf
        exact fun ρ6 σ6 H6 e6 s6 r6 => q ρ6 σ6 H6 ((e1.trans e14).trans e6) s6 r6
  · have : ds.drop i = [] := List.drop_eq_nil_of_le (by omega)
    rw [this] at hf
    cases hf
    exact .inl ⟨stop (by omega), q ρ2 σ2 H2 (e1.trans e2) s2 he2⟩
theorem d_for {iter : Expr} {body : List Stmt} {mi : MI} {g : MG} {mb : MS} (hp : PassesOwn (model X.prog X.w) X.A X.env X.xe) (hc : X.calm = true) (hi : PDI X tg iter mi) (hg : PDG X tg g) (hb : PDSs X body mb)
    (hs : ∀ x, foldedSetIterable iter X.env x = pure x := by intro _; rfl) : PDS X (.For tg iter body [] pos) (mFor mi g mb) := psImp (ps_for hp hc hi hg hb hs) fun _ _ _ h => for_of h

/-! while -/
def whileM (c : MT) (b : MS) : Nat → MS
  | 0, _, _ => none
  | n + 1, σ, S => (c σ S).bind fun r => if r.1 = true then (b σ r.2).bind fun o => match o with
    | .nx σ2 S2 => whileM c b n σ2 S2
    | .ct σ2 S2 => whileM c b n σ2 S2
    | .bk σ2 S2 => some (.nx σ2 S2)
    | .rt w S2 => some (.rt w S2)
    else some (.nx σ r.2)
theorem d_while (n : Nat) {body : List Stmt} {mc : MT} {mb : MS} (hp : PassesOwn (model X.prog X.w) X.A X.env X.xe) (hc : PDT X c mc) (hb : PDSs X body mb) : PDS X (.While c body [] pos) (whileM mc mb n) :=
  psImp (ps_while hp hc hb) fun D σ H ⟨ρ, σd, S, out, hs, he, hm, q⟩ => by
    refine ⟨fun m σ H' => ∃ ρ' σd' S', Ext ρ H ρ' H' ∧ SRel (kwOf X) ρ' H' S' ∧ RelE (kwOf X) ρ' H' σd' σ ∧ whileM mc mb m σd' S' = some out, ⟨n, ρ, σd, S, .refl, hs, he, hm⟩, ?_⟩
    rintro m σ1 H1 ⟨ρ1, σd1, S1, e1, s1, he1, hm1⟩
    cases m with
    | zero => cases hm1
    | succ m =>
      obtain ⟨⟨k, S2⟩, h2, hm1⟩ := Option.bind_eq_some_iff.mp hm1
      refine ⟨ρ1, σd1, S1, k, S2, s1, he1, h2, fun ρ2 H2 e2 s2 => ?_⟩
      cases k with
      | true =>
        rw [if_pos rfl] at hm1 ⊢
        obtain ⟨o, h3, hm1⟩ := Option.bind_eq_some_iff.mp hm1
        refine ⟨fun σ H' => ∃ ρ' σd' S', Ext ρ H ρ' H' ∧ SRel (kwOf X) ρ' H' S' ∧ RelE (kwOf X) ρ' H' σd' σ ∧ whileM mc mb m σd' S' = some out, fun σ' H' hN => ⟨m, by omega, hN⟩, ρ2, σd1, S2, o, s2, he1.ext e2, h3, ?_⟩
        have e12 := e1.trans e2
        cases o with
        | nx σ5 S5 => exact fun ρ6 σ6 H6 e6 s6 r6 => ⟨ρ6, σ5, S5, e12.trans e6, s6, r6, hm1⟩
        | ct σ5 S5 => exact fun ρ6 σ6 H6 e6 s6 r6 => ⟨ρ6, σ5, S5, e12.trans e6, s6, r6, hm1⟩
        | bk σ5 S5 =>
          cases hm1
          exact fun ρ6 σ6 H6 e6 s6 r6 => q ρ6 σ6 H6 (e12.trans e6) s6 r6
        | rt w S5 =>
          cases hm1
          exact fun ρ6 σ6 H6 e6 s6 r6 => q ρ6 σ6 H6 (e12.trans e6) s6 r6
      | false =>
        rw [if_neg Bool.false_ne_true] at hm1 ⊢
        cases hm1
        exact q ρ2 σ1 H2 (e1.trans e2) s2 (he1.ext e2)

/-! comprehensions -/
@[simp] def wipeD (σ : Env) : List Nat → Env
  | [] => σ
  | v :: vs => (wipeD σ vs).set v none
theorem RelE.none {K : KW} {ρ : Rho} {H : Hp} {σd : Env} {σ : L2.St} (h : RelE K ρ H σd σ) (i : Nat) : RelE K ρ H (σd.set i none) (σ.set i none) := by
  refine ⟨by simp [h.len], fun j u e => ?_⟩
  by_cases hj : i = j
  · subst hj
    rw [List.getElem?_set] at e
    rw [if_pos rfl] at e
    split at e <;> cases e
  · rw [List.getElem?_set_ne hj] at e
    obtain ⟨x, h1, h2⟩ := h.get j u e
    exact ⟨x, by rw [List.getElem?_set_ne hj]; exact h1, h2⟩
theorem RelE.wipe {K : KW} {ρ : Rho} {H : Hp} {σd : Env} {σ : L2.St} (h : RelE K ρ H σd σ) : ∀ vs : List Nat, RelE K ρ H (wipeD σd vs) (L2.wipe σ vs)
  | [] => h
  | v :: vs => (RelE.wipe h vs).none v
abbrev PDTs (X : Cx) (ifs : List Expr) (m : MT) : Prop := PTs X ifs (tDT (kwOf X) m)
theorem ptsImp {ifs : List Expr} {t t' : TT} (h : PTs X ifs t) (i : ∀ σ H Q, t' σ H Q → t σ H Q) : PTs X ifs t' := ⟨fun pins s σ H Q I q => h.run pins s σ H Q I (i σ H Q q)⟩
@[simp] def mYes : MT := fun _ S => some (true, S)
theorem dts_nil : PDTs X [] mYes := ptsImp pts_nil fun σ H Q ⟨ρ, σd, S, k, S', hs, he, hm, q⟩ => by
  cases hm
  exact q ρ H .refl hs
theorem dts_one {mt : MT} (h : PDT X c mt) : PDTs X [c] mt := pts_one h
@[simp] def compM (g : MG) (t : MT) (m : ME) : List D → Env → Sto → List D → Option (List D × Sto)
  | [], _, S, acc => some (acc, S)
  | d :: ds, σ, S, acc => (g (.d d) σ).bind fun σ1 => (t σ1 S).bind fun k => if k.1 = true then (m σ1 k.2).bind fun r => (asD1 r.1).bind fun x => if fits (acc.length + 1) = true then compM g t m ds σ r.2 (acc ++ [x]) else none
    else compM g t m ds σ k.2 acc
@[simp] def mComp (mi : MI) (g : MG) (t : MT) (m : ME) (vs : List Nat) : ME := fun σ S => (mi σ S).bind fun r => (compM g t m r.1 (wipeD σ vs) r.2 []).map fun q => (.d (.list q.1), q.2)
/-! the slots of a block -/
theorem wipe_get {σ : L2.St} {j : Nat} : ∀ {vs : List Nat}, (L2.wipe σ vs)[j]? = if j ∈ vs then (σ[j]?).map fun _ => none else σ[j]?
  | [] => by simp [L2.wipe]
  | v :: vs => by
    unfold L2.wipe
    by_cases hj : v = j
    · subst hj
      rw [List.getElem?_set]
      rw [if_pos rfl, L2.wipe_length, if_pos List.mem_cons_self]
      split
      · rename_i h; simp [h]
      · rename_i h; simp [h]
    · rw [List.getElem?_set_ne hj, wipe_get (vs := vs)]
      by_cases h : j ∈ vs
      · rw [if_pos h, if_pos (List.mem_cons_of_mem _ h)]
      · rw [if_neg h, if_neg (by simp only [List.mem_cons, not_or]; exact ⟨fun e => hj e.symm, h⟩)]
theorem wipe_idem (σ : L2.St) (vs : List Nat) : L2.wipe (L2.wipe σ vs) vs = L2.wipe σ vs := by
  apply List.ext_getElem?
  intro j
  rw [wipe_get, wipe_get]
  by_cases h : j ∈ vs
  · rw [if_pos h, if_pos h, Option.map_map]; rfl
  · rw [if_neg h, if_neg h]
theorem wipe_set (σ : L2.St) (vs : List Nat) (i : Nat) (x : Option V) (h : i ∈ vs) : L2.wipe (σ.set i x) vs = L2.wipe σ vs := by
  apply List.ext_getElem?
  intro j
  rw [wipe_get, wipe_get]
  by_cases hj : j ∈ vs
  · rw [if_pos hj, if_pos hj]
    by_cases e : i = j
    · subst e
      rw [List.getElem?_set, if_pos rfl]
      split
      · rename_i hl; simp [hl]
      · rename_i hl; simp [hl]
    · rw [List.getElem?_set_ne e]
  · rw [if_neg hj, if_neg hj]
    rw [List.getElem?_set_ne (by rintro rfl; exact hj h)]
/-- a target within a comprehension: it stores into the block's own slots alone -/
def gC (K : KW) (vs : List Nat) (g : MG) : TG := fun v σ H Q => ∃ ρ σd S w σ1, SRel K ρ H S ∧ RelE K ρ H σd σ ∧ RelW K ρ H w v ∧ g w σd = some σ1 ∧ ∀ ρ' σ' H', Ext ρ H ρ' H' → SRel K ρ' H' S → RelE K ρ' H' σ1 σ' → L2.wipe σ' vs = L2.wipe σ vs → Q σ' H'
abbrev PDGc (X : Cx) (vs : List Nat) (e : Expr) (g : MG) : Prop := PG X e (gC (kwOf X) vs g)
theorem dgc_name (i : Nat) {vs : List Nat} {x : Str} (hN : X.N.Nodup) (hx : Loc X.env.scope x) (hi : X.N[i]? = some x) (hv : i ∈ vs) (hf : X.fn x = true ∨ X.env.scope.names.lookup x = some .local) : PDGc X vs (.Name x pos) (gN i) :=
  pgImp (pg_name hN hi hx hf) fun v σ H Q ⟨ρ, σd, S, w, σ1, hs, he, r, hg, q⟩ => by
    cases hg
    exact q ρ _ H .refl hs (he.set r i) (wipe_set σ vs i _ hv)
def gCs (K : KW) (vs : List Nat) (g : MGs) : TGs := fun us σ H Q => ∃ ρ σd S ds σ1, SRel K ρ H S ∧ RelE K ρ H σd σ ∧ RepL ρ H ds us ∧ g ds σd = some σ1 ∧ ∀ ρ' σ' H', Ext ρ H ρ' H' → SRel K ρ' H' S → RelE K ρ' H' σ1 σ' → L2.wipe σ' vs = L2.wipe σ vs → Q σ' H'
abbrev PDGcs (X : Cx) (vs : List Nat) (es : List Expr) (g : MGs) : Prop := PGs X es (gCs (kwOf X) vs g)
theorem dgcs_nil {vs : List Nat} : PDGcs X vs [] gNil := pgsImp pgs_nil fun us σ H Q ⟨ρ, σd, S, ds, σ1, hs, he, r, hg, q⟩ => by
  cases ds with
  | nil => cases hg; cases r; exact ⟨rfl, q ρ σ H .refl hs he rfl⟩
  | cons d ds => cases hg
theorem dgcs_cons {vs : List Nat} {g : MG} {r : MGs} (h1 : PDGc X vs e g) (h2 : PDGcs X vs es r) (hs : (assignEach (e :: es) X.env).map (·.2) = assign e X.env :: (assignEach es X.env).map (·.2) := by rfl) : PDGcs X vs (e :: es) (gCons g r) :=
  pgsImp (pgs_cons h1 h2 hs) fun us σ H Q ⟨ρ, σd, S, ds, σ1, hs, he, rr, hg, q⟩ => by
    cases ds with
    | nil => cases hg
    | cons d ds =>
      cases rr with
      | cons r1 r2 =>
        obtain ⟨σ2, h3, h4⟩ := Option.bind_eq_some_iff.mp hg
        exact ⟨_, _, rfl, ρ, σd, S, .d d, σ2, hs, he, r1, h3, fun ρ1 σ' H1 e1 s1 q1 w1 => ⟨ρ1, σ2, S, ds, σ1, s1, q1, r2.ext e1, h4, fun ρ2 σ'' H2 e2 s2 q2 w2 => q ρ2 σ'' H2 (e1.trans e2) s2 q2 (w2.trans w1)⟩⟩
theorem dgc_tup {vs : List Nat} {k : Nat} {n : Nat} {r : MGs} (hc : X.calm = true) (h : PDGcs X vs es r) (hn : (assignEach es X.env).length = n := by rfl) (hst : (assignEach es X.env).findIdx? (·.1) = none := by rfl) : PDGc X vs (.Tuple es k pos) (gTup n r) :=
  pgImp (pg_tup hc h hn hst) fun v σ H Q ⟨ρ, σd, S, w, σ1, hs, he, rr, hg, q⟩ => by
    obtain ⟨ds, h1, h2⟩ := Option.bind_eq_some_iff.mp hg
    obtain ⟨a, us, rfl, ht, hr⟩ := asT_rel rr h1
    split at h2
    · rename_i hl
      exact ⟨a, us, rfl, ht, by rw [← hr.length]; exact of_decide_eq_true hl, ρ, σd, S, ds, σ1, hs, he, hr, h2, q⟩
    · cases h2
theorem comp_of {K : KW} {mi : MI} {g : MG} {mt : MT} {m : ME} {vs : List Nat} {σ : L2.St} {H : Hp} {Q : VK}
    (h : tD K (mComp mi g mt m vs) σ H Q) : tLc (iD K mi) (gC K vs g) (tDT K mt) (tD K m) vs σ H Q := by
  obtain ⟨ρ, σd, S, w, S', hs, he, hm, q⟩ := h
  obtain ⟨⟨ds, S1⟩, h1, hm⟩ := Option.bind_eq_some_iff.mp hm
  rw [Option.map_eq_some_iff] at hm
  obtain ⟨⟨out, S2⟩, h2, h3⟩ := hm
  cases h3
  refine ⟨ρ, σd, S, ds, S1, hs, he, h1, fun ρ1 J H1 e1 s1 iok => ?_⟩
  intro Dd hD
  have hbl := block_mv (ρ := ρ1) (o := .lst []) hD
  have e0 : Ext ρ1 H1 (ρ1.block Dd) (upd H1 Dd (.lst [])) := ⟨fun a o ha na => ⟨(Ext.new (ρ := ρ1) hD).keep a o ha na |>.1, na⟩, fun _ _ _ h => h, Nat.le_refl _, none_of_upd, fun a h => (List.mem_cons.mp h).elim (fun z => .inr (z ▸ hD)) .inl, fun a h => List.mem_cons_of_mem _ h⟩
  refine ⟨fun i n H' => n = ds.length - i ∧ ∃ ρ' S' acc us, Ext ρ1 H1 ρ' H' ∧ Dd ∈ ρ'.b ∧ SRel K ρ' H' S' ∧ RelE K ρ' H' (wipeD σd vs) (L2.wipe σ vs) ∧ H' Dd = some (.lst us) ∧ RepL ρ' H' acc us ∧ compM g mt m (ds.drop i) (wipeD σd vs) S' acc = some (out, S2), ?_, ?_⟩
  · exact ⟨ds.length, rfl, ρ1.block Dd, S1, [], [], e0, List.mem_cons_self, s1.blocked hD, ((he.ext e1).wipe vs).mv hbl rfl, upd_same, .nil, by simpa using h2⟩
  rintro i n H2 ⟨rfl, ρ2, S3, acc, us, e2, b2, s2, he2, hD2, ra, hf⟩
  have nD2 : some Dd ∉ ρ2.l := (s2.blk Dd b2).2
  obtain ⟨stop, go⟩ := iok _ H2 S3 e2 s2 i
  by_cases hi : i < ds.length
  · obtain ⟨d, hd⟩ : ∃ d, ds[i]? = some d := ⟨ds[i], by simp [hi]⟩
    obtain ⟨hgo, hy⟩ := go d hd
    have hdr : ds.drop i = d :: ds.drop (i + 1) := by
      rw [List.drop_eq_getElem_cons hi]
      congr 1
      have := List.getElem?_eq_getElem hi
      rw [this] at hd
      exact Option.some.inj hd
    rw [hdr] at hf
    obtain ⟨σ3, h3, hf⟩ := Option.bind_eq_some_iff.mp hf
    obtain ⟨⟨k, S4⟩, h4, hf⟩ := Option.bind_eq_some_iff.mp hf
    refine .inr ⟨hgo, fun H' => ∃ ρ' S' acc us, Ext ρ1 H1 ρ' H' ∧ Dd ∈ ρ'.b ∧ SRel K ρ' H' S' ∧ RelE K ρ' H' (wipeD σd vs) (L2.wipe σ vs) ∧ H' Dd = some (.lst us) ∧ RepL ρ' H' acc us ∧ compM g mt m (ds.drop (i + 1)) (wipeD σd vs) S' acc = some (out, S2), fun H' hN => ⟨ds.length - (i + 1), by omega, rfl, hN⟩, ?_⟩
    intro x H3 hyl
    obtain ⟨gr, rx⟩ := hy x H3 hyl
    have e3 : Ext ρ2 H2 ρ2 H3 := Ext.gr gr
    refine ⟨ρ2, wipeD σd vs, S3, .d d, σ3, s2.gr gr, he2.ext e3, rx, h3, fun ρ4 σ4 H4 e4 s4 r4 w4 => ⟨by rw [w4, wipe_idem], ?_⟩⟩
    refine ⟨ρ4, σ3, S3, k, S4, s4, r4, h4, fun ρ5 H5 e5 s5 => ?_⟩
    have e25 : Ext ρ2 H2 ρ5 H5 := (e3.trans e4).trans e5
    obtain ⟨hD5, nD5⟩ := e25.keep _ _ hD2 nD2
    cases k with
    | true =>
      dsimp only at hf ⊢
      rw [if_pos rfl] at hf ⊢
      obtain ⟨⟨w6, S6⟩, h6, hf⟩ := Option.bind_eq_some_iff.mp hf
      obtain ⟨x6, hx6, hf⟩ := Option.bind_eq_some_iff.mp hf
      refine ⟨ρ5, σ3, S4, w6, S6, s5, r4.ext e5, h6, fun ρ6 v6 H6 e6 s6 r6 => ?_⟩
      have e26 := e25.trans e6
      obtain ⟨hD6, nD6⟩ := e26.keep _ _ hD2 nD2
      have b6 := e26.bsub _ b2
      dsimp only at hf
      split at hf
      · rename_i hfit
        have r6' : Rep ρ6 H6 x6 v6 := by
          cases w6 with
          | d y => cases hx6; exact r6
          | _ => cases hx6
        have e16 := e2.trans e26
        refine ⟨us, hD6, by rw [← ra.length]; exact fits_lt hfit, ρ6, S6, acc ++ [x6], us ++ [v6], ?_, b6, s6.blkW b6, (he2.ext e26).mv (blk_mv b6) rfl, upd_same, ?_, hf⟩
        · exact ⟨fun a o ha na => by
            have hne : a ≠ Dd := ne_of_none ha hD
            rw [upd_ne hne]
            exact e16.keep a o ha na, e16.loc, e16.len, fun a h => e16.dom a (none_of_upd a h), e16.bnew, e16.bsub⟩
        · exact ((ra.ext e26).append (.cons r6' .nil)).mv (blk_mv b6)
      · cases hf
    | false =>
      dsimp only at hf ⊢
      rw [if_neg Bool.false_ne_true] at hf ⊢
      exact ⟨ρ5, S4, acc, us, e2.trans e25, e25.bsub _ b2, s5, he2.ext e25, hD5, ra.ext e25, hf⟩
  · have hn : ds.drop i = [] := List.drop_eq_nil_of_le (by omega)
    rw [hn] at hf
    cases hf
    have hsub : ∀ a, a ∈ ρ2.b.filter (fun a => decide (a ≠ Dd)) → a ∈ ρ2.b := fun a h => (List.mem_filter.mp h).1
    have e2' : Ext ρ1 H1 ⟨ρ2.l, ρ2.b.filter (fun a => decide (a ≠ Dd))⟩ H2 := ⟨e2.keep, e2.loc, e2.len, e2.dom, fun a h => e2.bnew a (hsub a h), fun a h => List.mem_filter.mpr ⟨e2.bsub a h, by
      have : a ≠ Dd := fun z => s1.freshb hD (z ▸ h)
      simpa using this⟩⟩
    refine .inl ⟨stop (by omega), q ⟨ρ2.l, ρ2.b.filter (fun a => decide (a ≠ Dd))⟩ _ H2 (e1.trans e2') (s2.unblock hsub) (.lst hD2 ⟨nD2, fun z => ?_⟩ (ra.sub (unblock_fr hsub)))⟩
    have := (List.mem_filter.mp z).2
    simp at this
/-- [elt for target in iter if ..] -/
theorem d_comp {elt iter : Expr} {ifs : List Expr} {scope : Scope} (own : List (Str × Nat)) {mi : MI} {g : MG} {mt : MT} {m : ME} (hc : X.calm = true) (hN : X.N.Nodup) (hi : PDI X tg iter mi) (ok : BlkOk X.N X.env.scope scope own)
    (hg : ∀ (s : Shared) (H : Hp) (C : Addr) (cl : List (Str × Addr)) (fp : List Addr), PDGc (X.blk s H scope (compEnvC scope cl C X.env) fp) (own.map (·.2)) tg g) (ht : ∀ (s : Shared) (H : Hp) (C : Addr) (cl : List (Str × Addr)) (fp : List Addr), PDTs (X.blk s H scope (compEnvC scope cl C X.env) fp) ifs mt)
    (he : ∀ (s : Shared) (H : Hp) (C : Addr) (cl : List (Str × Addr)) (fp : List Addr), PD (X.blk s H scope (compEnvC scope cl C X.env) fp) elt m) (hs : ∀ x, foldedSetIterable iter X.env x = pure x := by intro _; rfl) :
    PD X (.ListComp elt [⟨tg, iter, ifs, 0⟩] scope pos) (mComp mi g mt m (own.map (·.2))) := peImp (pe_lc hc hN hi ok hg ht he hs) fun _ _ _ h => comp_of h
theorem d_setComp (i : Nat) {y : Str} {py spos : Pos} {elt iter : Expr} {ifs : List Expr} {scope : Scope} (own : List (Str × Nat)) {mi : MI} {g : MG} {mt : MT} {m : ME} (hc : X.calm = true) (hN : X.N.Nodup) (hy : X.N[i]? = some y) (hyl : X.env.scope.names.lookup y = some .local)
    (hsw : swapsWith (.ListComp elt [⟨tg, iter, ifs, 0⟩] scope pos) (some (.Name y py)) spos.line X.env = pure true) (hi : PDI X tg iter mi) (ok : BlkOk X.N X.env.scope scope own)
    (hg : ∀ (s : Shared) (H : Hp) (C : Addr) (cl : List (Str × Addr)) (fp : List Addr), PDGc (X.blk s H scope (compEnvC scope cl C X.env) fp) (own.map (·.2)) tg g) (ht : ∀ (s : Shared) (H : Hp) (C : Addr) (cl : List (Str × Addr)) (fp : List Addr), PDTs (X.blk s H scope (compEnvC scope cl C X.env) fp) ifs mt)
    (he : ∀ (s : Shared) (H : Hp) (C : Addr) (cl : List (Str × Addr)) (fp : List Addr), PD (X.blk s H scope (compEnvC scope cl C X.env) fp) elt m) (hs : ∀ x, foldedSetIterable iter X.env x = pure x := by intro _; rfl) :
    PDS X (.Assign [.Name y py] (.ListComp elt [⟨tg, iter, ifs, 0⟩] scope pos) spos) (mAsg i (mComp mi g mt m (own.map (·.2)))) :=
  psImp (ps_setLc hc hN hy hyl hsw hi ok hg ht he hs) fun D σ H h => by
    obtain ⟨ρ, σd, S, out, hs, he, hm, q⟩ := h
    unfold mAsg at hm
    rw [Option.map_eq_some_iff] at hm
    obtain ⟨⟨w, S1⟩, h1, h2⟩ := hm
    cases h2
    exact comp_of ⟨ρ, σd, S, w, S1, hs, he, h1, fun ρ1 v H1 e1 s1 r1 => q ρ1 _ H1 e1 s1 ((he.ext e1).set r1 i)⟩
end

/-! defs -/
abbrev Fn := List W → Sto → Option (W × Sto)
def spD (K : KW) (n : Nat) (f : Fn) : Sp := fun vs H Q _ => ∃ ρ S ws w S', SRel K ρ H S ∧ RelWs K ρ H ws vs ∧ ws.length = n ∧ f ws S = some (w, S') ∧ ∀ ρ' v H', Ext ρ H ρ' H' → SRel K ρ' H' S' → RelW K ρ' H' w v → Q v H'
theorem RepF.low {ρ : Rho} {H : Hp} {fs : List (Str × FV)} {vs : List (Str × V)} (h : RepF ρ H fs vs) : ∀ i ∈ refsF fs, i < ρ.l.length := by
  induction h with
  | nil => intro i hi; cases hi
  | d _ _ ih => intro i hi; exact ih i (by simpa [refsF, FV.refs] using hi)
  | l r _ ih =>
    intro i hi
    simp only [refsF, FV.refs, List.cons_append, List.nil_append, List.mem_cons] at hi
    rcases hi with rfl | hi
    · exact r.1
    · exact ih i hi
theorem SRel.low {K : KW} {ρ : Rho} {H : Hp} {S : Sto} (s : SRel K ρ H S) {i : Nat} {o : O} (h : S[i]? = some o) : ∀ r ∈ o.refs, r < S.length := by
  intro r hr
  cases o with
  | ins C fs =>
    obtain ⟨a, ha⟩ := s.live i _ h (by intro z; cases z)
    obtain ⟨o', h1, h2⟩ := s.obj i a ha
    rw [h] at h1; cases h1
    obtain ⟨dx, vs, _, h3⟩ := h2
    rw [← s.len]
    exact h3.low r hr
  | _ => cases hr
/-- what stood ahead of a def, and still stands or holds none that is new -/
def trimOk (S0 S' : Sto) : Bool := says (∀ (i : Nat) (o : O), i < S0.length → S'[i]? = some o → S0[i]? = some o ∨ ∀ r ∈ o.refs, r < S0.length)
def lowOk (n : Nat) (o : Option O) : Bool := says (∀ u, o = some u → ∀ r ∈ u.refs, r < n)
/-- what is left of the store behind a def: what stood ahead of it, and what it hands back (all, where these hold others) -/
def trim (S0 : Sto) (w : W) (S : Sto) : W × Sto := if trimOk S0 S = true then (match w with
  | .loc i => if S0.length ≤ i then (if lowOk S0.length (S[i]?) = true then (.loc S0.length, S.take S0.length ++ (S[i]?).toList) else (w, S)) else (w, S.take S0.length)
  | _ => (w, S.take S0.length)) else (w, S)
theorem trim_ok {K : KW} {ρ ρ' : Rho} {H H' : Hp} {S S' : Sto} {w : W} {v : V} (s : SRel K ρ H S) (e : Ext ρ H ρ' H') (s' : SRel K ρ' H' S') (r : RelW K ρ' H' w v) :
    ∃ ρ2, Ext ρ H ρ2 H' ∧ SRel K ρ2 H' (trim S w S').2 ∧ RelW K ρ2 H' (trim S w S').1 v := by
  unfold trim
  split
  case isFalse => exact ⟨ρ', e, s', r⟩
  rename_i hok
  have hok := says_of hok
  have low : Low S.length (S'.take S.length) := fun i o h => by
    rw [List.getElem?_take] at h
    split at h
    · rename_i hi
      rcases hok i o hi h with q | q
      · exact s.low q
      · exact q
    · cases h
  have cut : ∀ (w : W), RelW K ρ' H' w v → (∀ i, w = .loc i → i < S.length) → ∃ ρ2, Ext ρ H ρ2 H' ∧ SRel K ρ2 H' (S'.take S.length) ∧ RelW K ρ2 H' w v := fun w r hw => by
    refine ⟨ρ'.cut S.length, e.cut (by rw [s.len]; exact Nat.le_refl _), s'.cut low, ?_⟩
    have hk : ∀ a, ρ'.Fr a → (ρ'.cut S.length).Fr a := fun a h => ⟨fun z => h.1 (List.mem_of_mem_take z), h.2⟩
    cases w with
    | d x => exact Rep.sub hk r
    | loc i => exact LocR.cut (hw i rfl) r
    | ct xs => exact r
    | sc ns =>
      obtain ⟨a, e1, h⟩ := r
      exact ⟨a, e1, h.imp (fun ⟨o, h1, h2⟩ => ⟨o, h1, hk a h2⟩) id⟩
    | v x => exact r
    | kd b kvs =>
      obtain ⟨a, us, e1, n, h1, h2, h3⟩ := r
      exact ⟨a, us, e1, hk a n, h1, h2, h3.sub hk⟩
    | td b kvs =>
      obtain ⟨a, us, e1, n, h1, h2, h3⟩ := r
      exact ⟨a, us, e1, hk a n, h1, h2, h3.sub hk⟩
    | ft xs =>
      obtain ⟨a, o, vs, e1, n, h1, c1, c2, h2⟩ := r
      exact ⟨a, o, vs, e1, hk a n, h1, c1, c2, RepL.sub hk h2⟩
  cases w with
  | loc i =>
    dsimp only
    by_cases hi : S.length ≤ i
    · rw [if_pos hi]
      split
      case isFalse => exact ⟨ρ', e, s', r⟩
      rename_i hlow
      have hlow := says_of hlow
      have low2 : Low S.length (S'.take S.length ++ (S'[i]?).toList) := fun j o h => by
        rcases List.mem_append.mp (List.mem_of_getElem? h) with q | q
        · obtain ⟨m, hm⟩ := List.mem_iff_getElem?.mp q
          exact low m o hm
        · cases z : S'[i]? with
          | none => rw [z] at q; simp at q
          | some u =>
            rw [z] at q; simp at q; subst q
            exact hlow _ z
      refine ⟨ρ'.pick S.length i, e.pick (by rw [s.len]; exact Nat.le_refl _) hi r.1, s'.pick hi r.1 low2, ?_, fun a ha => ?_⟩
      · show S.length < (ρ'.l.take S.length ++ (ρ'.l[i]?).toList).length
        have hlt := r.1
        rw [List.length_append, List.length_take]
        obtain ⟨y, ey⟩ : ∃ y, ρ'.l[i]? = some y := ⟨ρ'.l[i], by simp [hlt]⟩
        rw [ey]
        simp
        omega
      · have ha' : (ρ'.l.take S.length ++ (ρ'.l[i]?).toList)[S.length]? = some (some a) := ha
        rw [at_pick hi r.1] at ha'
        exact r.2 a ha'
    · rw [if_neg hi]
      exact cut _ r fun j hj => by cases hj; omega
  | d x => exact cut _ r fun j hj => by cases hj
  | ct x => exact cut _ r fun j hj => by cases hj
  | sc x => exact cut _ r fun j hj => by cases hj
  | v x => exact cut _ r fun j hj => by cases hj
  | kd b x => exact cut _ r fun j hj => by cases hj
  | td b x => exact cut _ r fun j hj => by cases hj
  | ft x => exact cut _ r fun j hj => by cases hj
/-- a def by its body: n names in all -/
def fnD (n : Nat) (b : MS) : Fn := fun ws S => (b (ws.map some ++ List.replicate (n - ws.length) none) S).bind fun o => match o with
  | .nx _ S' => some (trim S (.d .none) S')
  | .rt w S' => some (trim S w S')
  | _ => none
theorem relE_start {K : KW} {ρ : Rho} {H : Hp} {ws : List W} {vs : List V} (N : List Str) (r : RelWs K ρ H ws vs) : RelE K ρ H (ws.map some ++ List.replicate (N.length - ws.length) none) (L2.start N vs) := by
  have hl := r.length
  refine ⟨by simp [L2.start, hl], fun i w hi => ?_⟩
  have hi' : i < ws.length := by
    by_cases h : i < ws.length
    · exact h
    · rw [List.getElem?_append_right (by simpa using h), List.getElem?_replicate] at hi
      split at hi <;> cases hi
  rw [List.getElem?_append_left (by simpa using hi'), List.getElem?_map] at hi
  have hw : ws[i]? = some w := by
    cases q : ws[i]? with
    | none => rw [q] at hi; cases hi
    | some x => rw [q] at hi; cases hi; rfl
  have get : ∀ {ws : List W} {vs : List V} {i : Nat} {w : W}, RelWs K ρ H ws vs → ws[i]? = some w → ∃ v, vs[i]? = some v ∧ RelW K ρ H w v := by
    intro ws vs i w r
    induction r generalizing i with
    | nil => intro h; simp at h
    | cons a _ ih =>
      intro h
      cases i with
      | zero => simp at h; subst h; exact ⟨_, rfl, a⟩
      | succ i => simp at h; simpa using ih h
  obtain ⟨v, hv, rv⟩ := get r hw
  refine ⟨v, ?_, rv⟩
  unfold L2.start
  rw [List.getElem?_append_left (by rw [List.length_map, ← hl]; exact hi'), List.getElem?_map, hv]
  rfl
section
variable {P : Program} {w : World} {K : KW} {mg : Str → Option Value} {base : Heap}
theorem spD_len {n : Nat} {f : Fn} {vs : List V} {H : Hp} {Q : VK} {E : XK} (h : spD K n f vs H Q E) : vs.length = n := by
  obtain ⟨ρ, S, ws, w, S', hs, hr, hl, _⟩ := h
  rw [← hr.length]; exact hl
theorem body_of {N ps : List Str} {b : MS} {vs : List V} {H : Hp} {Q : VK} {E : XK} (h : spD K ps.length (fnD N.length b) vs H Q E) : sD K b { nx := fun _ H' => Q .non H', rt := Q } (L2.start N vs) H := by
  obtain ⟨ρ, S, ws, w, S', hs, hr, hl, hf, q⟩ := h
  obtain ⟨o, h1, h2⟩ := Option.bind_eq_some_iff.mp hf
  refine ⟨ρ, _, S, o, hs, relE_start N hr, h1, ?_⟩
  cases o with
  | nx σ1 S1 =>
    refine fun ρ1 σ' H1 e1 s1 r1 => ?_
    obtain ⟨ρ2, e2, s2, r2⟩ := trim_ok (K := K) (w := .d .none) (v := .non) hs e1 s1 .non
    have h2' := Option.some.inj h2
    rw [h2'] at s2 r2
    exact q ρ2 .non H1 e2 s2 r2
  | rt u S1 =>
    refine fun ρ1 v H1 e1 s1 r1 => ?_
    obtain ⟨ρ2, e2, s2, r2⟩ := trim_ok hs e1 s1 r1
    have h2' := Option.some.inj h2
    rw [h2'] at s2 r2
    exact q ρ2 v H1 e2 s2 r2
  | bk σ1 S1 => cases h2
  | ct σ1 S1 => cases h2
end
end DL

set_option Elab.async false
set_option linter.all false
set_option maxRecDepth 100000
set_option autoImplicit false
/-! The data layer, 5: defs that are called where no guard stands (so that repr may be asked), calls, the law's end. -/
noncomputable section
namespace DL
open PySem PySem.Spec PyProof.Rows L2

/-- a promise that is kept where no guard stands -/
structure FnG (P : Program) (w : World) (K : PySem.W.Frag) (mg : Str → Option Value) (base : Heap) (CX : CXT) (k : Nat) (f : Addr) (fd : FuncData) (ps : List Str) (sp : Sp) : Prop where
  len : ∀ vs H Q E, sp vs H Q E → vs.length = ps.length
  run : ∀ (A : Around), A.guards = some [] → Room k A → ∀ (outer : List PySem.Env) (s : Shared) (H : Hp), Env0 P w K mg base A outer s H → ∀ (args : Args) (us : List Value) (vs : List V), BindsTo s fd args (ps.zip us) → Vals vs us →
    ∀ (Q : VK) (E : XK), sp vs H Q E → codeAny (model P w) A (.call (.ref f) args) (CR CX outer P w H s Q E) s

section
variable {P : Program} {w : World} {K : PySem.W.Frag} {mg : Str → Option Value} {base : Heap} {CX : CXT}
theorem FnG.mono {j k : Nat} {f : Addr} {fd : FuncData} {ps : List Str} {sp : Sp} (F : FnG P w K mg base CX j f fd ps sp) (h : j ≤ k) : FnG P w K mg base CX k f fd ps sp :=
  ⟨F.len, fun A g hr => F.run A g (hr.mono h)⟩
theorem FnG.imp {k : Nat} {f : Addr} {fd : FuncData} {ps : List Str} {sp sp' : Sp} (F : FnG P w K mg base CX k f fd ps sp) (h : ∀ vs H Q E, sp' vs H Q E → sp vs H Q E) : FnG P w K mg base CX k f fd ps sp' :=
  ⟨fun vs H Q E q => F.len vs H Q E (h _ _ _ _ q), fun A g hr outer s H e0 args us vs hb hv Q E q => F.run A g hr outer s H e0 args us vs hb hv Q E (h _ _ _ _ q)⟩
/-- what is never asked is kept -/
theorem FnG.never {k : Nat} {f : Addr} {fd : FuncData} {ps : List Str} {sp : Sp} (h : ∀ vs H Q E, ¬ sp vs H Q E) : FnG P w K mg base CX k f fd ps sp :=
  ⟨fun vs H Q E q => (h _ _ _ _ q).elim, fun A g hr outer s H e0 args us vs hb hv Q E q => (h _ _ _ _ q).elim⟩

/-- a def by its body's reading, where no guard stands -/
theorem fnG_of {k : Nat} {f : Addr} {name qual : Str} {params : Arguments} {body : List Stmt} {scope : Scope} {dvs : List V} {kws : List (Str × V)} {fd : FuncData} {N ps : List Str} {sp : Sp} (F : FunD K name qual params body scope dvs kws f fd)
    (S : FnScope N ps scope) (len : ∀ vs H Q E, sp vs H Q E → vs.length = ps.length)
    (hb : ∀ (cdv : Value) (A : Around) (outer : List PySem.Env) (s : Shared) (H : Hp) (vs : List V) (Q : VK) (E : XK), A.guards = some [] → Room k (A.deeper (envOfC qual scope s.heap.objs.size f cdv)) → sp vs H Q E →
      ∃ t, PSs (cxOf CX P w K mg base N qual scope f cdv A outer s H E) body t ∧ t { nx := fun _ H' => Q .non H', rt := Q } (L2.start N vs) H) :
    FnG P w K mg base CX (k + 1) f fd ps sp := by
  obtain ⟨oc, od, dV, kV, doc, pm, an, cdv, ct, osl, rfl, lk, hcd, _, _⟩ := F.ex
  refine ⟨len, fun A hg hr outer s H e0 args us vs hbind r Q E hsp => ?_⟩
  have kin : K.In s.heap := e0.mod.kin.keeps fun b o e => (e0.bs b o e).1
  have lim : s.heap.NoLimit := e0.mod.nolimit.keeps fun b o e => (e0.bs b o e).1
  refine Att.call_fn kin lim lk hcd hr.depth hbind ?_ (fun s1 x => ?_) S.co S.gen S.kind
  · rw [List.all_eq_true]
    rintro ⟨n, v⟩ hy
    rcases S.par n (List.of_mem_zip hy).1 with q | q
    · simp [q]
    · simp [q]
  · obtain ⟨t, ht, hq⟩ := hb cdv A outer s H vs Q E hg (hr.deeper _) hsp
    have I := inv_start (CX := CX) (E := E) S hr.hd e0 (len _ _ _ _ hsp) r x
    refine wpAny_mono (ht.run [] s1 _ H _ I hq) (fun fl s' hs => ?_) fun e s' hs => hs
    cases fl with
    | ret u => obtain ⟨v, σ', H', J, rv, q⟩ := hs; exact ⟨v, H', J.os, J.bare, J.base, J.hok, rv, q⟩
    | next => obtain ⟨σ', H', J, q⟩ := hs; exact ⟨.non, H', J.os, J.bare, J.base, J.hok, rfl, q⟩
    | brk => obtain ⟨_, _, _, q⟩ := hs; exact q.elim
    | cont => obtain ⟨_, _, _, q⟩ := hs; exact q.elim
/-- THE RULE for a def of the top, in data -/
theorem fn_okG {x qual : Str} {st : Stmt} {f : Addr} {fd : FuncData} {N ps : List Str} {k : Nat} {b : MS} (F : FunD K x qual (defArgs st) (defBody st) (defScope st) [] [] f fd) (S : FnScope N ps (defScope st))
    (hb : ∀ (cdv : Value) (A : Around) (outer : List PySem.Env) (s : Shared) (H : Hp) (E : XK), A.guards = some [] → Room k (A.deeper (envOfC qual (defScope st) s.heap.objs.size f cdv)) →
      PDSs (cxOf CX0 P w K mg base N qual (defScope st) f cdv A outer s H E).nox (defBody st) b) : FnG P w K mg base CX0 (k + 1) f fd ps (spD ⟨K, w⟩ ps.length (fnD N.length b)) :=
  fnG_of F S (fun vs H Q E h => spD_len h) fun cdv A outer s H vs Q E hg hr h => ⟨_, (hb cdv A outer s H E hg hr).nox, body_of h⟩
theorem spD_none {K : KW} {n : Nat} {vs : List V} {H : Hp} {Q : VK} {E : XK} : ¬ spD K n (fun _ _ => none) vs H Q E := fun ⟨_, _, _, _, _, _, _, _, h, _⟩ => by cases h
end

/-! calls -/
section
variable {X : Cx} {k n : Nat} {f : Addr} {fd : FuncData} {ps : List Str} {g : Fn} {x : Str} {p pos : Pos} {e : Expr} {es : List Expr}
@[simp] def mCallF (n : Nat) (g : Fn) (m : MA) : ME := fun σ S => (m σ S).bind fun r => if decide (r.1.length = n) = true then g r.1 r.2 else none
theorem run_G {pins : List (Addr × Obj)} {σ : L2.St} {H : Hp} {s : Shared} {Q : VK} {args : Args} {us : List Value} {vs : List V} {sp : Sp} (F : FnG X.prog X.w X.K X.mg X.base CX0 k f fd ps sp) (hG : X.A.guards = some []) (hr : Room k X.A)
    (I : Inv X pins σ H s) (hb : BindsTo s fd args (ps.zip us)) (r : Vals vs us) (h : sp vs H Q E0) : codeAny (model X.prog X.w) X.A (.call (.ref f) args) (fun r s' => match r with | .ok (.ret u) => EP X pins σ Q u s' | .ok _ => False | .error e => X.xe e s') s := by
  refine codeAny_mono (F.run X.A hG hr X.stack s H I.env0 args us vs hb r Q E0 h) fun r s' hq => ?_
  cases r with
  | error e => exact hq.elim
  | ok fl =>
    cases fl with
    | ret u => exact I.after hq
    | next => exact hq.elim
    | brk => exact hq.elim
    | cont => exact hq.elim
theorem wp_of_code {pins : List (Addr × Obj)} {σ : L2.St} {s : Shared} {Q : VK} {us : List Value} {kw : List (Str × Value)} (h : codeAny (model X.prog X.w) X.A (.call (.ref f) ⟨us, kw⟩) (fun r s' => match r with | .ok (.ret u) => EP X pins σ Q u s' | .ok _ => False | .error e => X.xe e s') s) :
    wpAny (model X.prog X.w) X.A (call (.ref f) us kw) (EP X pins σ Q) X.xe s := by
  refine wpAny_call (codeAny_mono h fun r s' hq => ?_)
  cases r with
  | error e => exact hq
  | ok fl =>
    cases fl with
    | ret u => exact hq
    | next => exact hq.elim
    | brk => exact hq.elim
    | cont => exact hq.elim
theorem spD_of {K : KW} {ρ : Rho} {H : Hp} {S S' : Sto} {ws : List W} {w : W} {vs : List V} {Q : VK} {E : XK} (hs : SRel K ρ H S) (hr : RelWs K ρ H ws vs) (hm : (if decide (ws.length = n) = true then g ws S else none) = some (w, S'))
    (q : ∀ ρ' v H', Ext ρ H ρ' H' → SRel K ρ' H' S' → RelW K ρ' H' w v → Q v H') : spD K n g vs H Q E := by
  split at hm
  · rename_i hl
    exact ⟨ρ, S, ws, w, S', hs, hr, of_decide_eq_true hl, hm, q⟩
  · cases hm
theorem d_call {m : MA} (F : FnG X.prog X.w X.K X.mg X.base CX0 k f fd ps (spD (kwOf X) n g)) (hG : X.A.guards = some []) (hr : Room k X.A) (hg : Gl X x) (hm : X.mg x = some (.ref f)) (hk : PySem.W.keepIn X.K (.ref f) = true) (hb : Binds X.K fd ps [])
    (ha : PDA X (e :: es) m) (hdb : (x == ("__debug__" : Str)) = false := by decide) (he : starEach (e :: es) X.env = (false, eval e X.env) :: starEach es X.env := by rfl) (hpl : (backTo pos (starEach es X.env)).any (·.1) = false := by rfl) :
    PD X (.Call (.Name x p) (e :: es) [] pos) (mCallF n g m) := by
  refine ⟨fun pins s σ H Q I h => ?_⟩
  obtain ⟨ρ, σd, S, w, S', hs, hE, hmm, q⟩ := h
  obtain ⟨⟨ws, S1⟩, h1, h2⟩ := Option.bind_eq_some_iff.mp hmm
  have arg : tDA (kwOf X) m σ H (fun vs H1 => spD (kwOf X) n g vs H1 Q E0) := ⟨ρ, σd, S, ws, S1, hs, hE, h1, fun ρ1 vs H1 e1 s1 r1 => spD_of s1 r1 h2 fun ρ2 v H2 e2 s2 r2 => q ρ2 v H2 (e1.trans e2) s2 r2⟩
  refine wpAny_Call_Name_kw (ld_glob I hg hm ?_ hdb)
  refine PySem.W.callWith_K (h₀ := X.base) I.ok.mod.kin hk (thn (ha.run pos pins s σ H _ I arg) fun us s1 ⟨vs, H1, I1, r, q1⟩ => ⟨I1.kIn, ?_⟩) he hpl
  have hl : us.length = ps.length := by rw [← r.length]; exact F.len _ _ _ _ q1
  have hbd := hb s1 us I1.kIn (by rw [List.append_nil]; exact hl)
  rw [List.append_nil] at hbd
  exact wp_of_code (run_G F hG hr I1 hbd r q1)
theorem d_call0 (F : FnG X.prog X.w X.K X.mg X.base CX0 k f fd ps (spD (kwOf X) n g)) (hG : X.A.guards = some []) (hr : Room k X.A) (hg : Gl X x) (hm : X.mg x = some (.ref f)) (hk : PySem.W.keepIn X.K (.ref f) = true) (hb : Binds X.K fd ps [])
    (hdb : (x == ("__debug__" : Str)) = false := by decide) : PD X (.Call (.Name x p) [] [] pos) (mCallF n g mNil) := by
  refine ⟨fun pins s σ H Q I h => ?_⟩
  obtain ⟨ρ, σd, S, w, S', hs, hE, hmm, q⟩ := h
  obtain ⟨⟨ws, S1⟩, h1, h2⟩ := Option.bind_eq_some_iff.mp hmm
  cases h1
  have q1 : spD (kwOf X) n g [] H Q E0 := spD_of hs .nil h2 q
  refine wpAny_Call_Name_kw (ld_glob I hg hm ?_ hdb)
  refine PySem.W.callWith_K0 I.kIn hk ?_
  have hl : ([] : List Value).length = ps.length := F.len _ _ _ _ q1
  have hbd := hb s [] I.kIn hl
  exact wp_of_code (run_G (us := []) F hG hr I hbd .nil q1)
/-- keywords alone: perm puts their values in the parameters' order -/
abbrev PDK (X : Cx) (kws : List Keyword) (m : MA) : Prop := PK X kws (tDA (kwOf X) m)
theorem dk_nil : PDK X [] mNil := ⟨fun pos pins s σ H Q I ⟨ρ, σd, S, ws, S', hs, he, hm, q⟩ => by
  cases hm
  exact pk_nil.run pos pins s σ H Q I (q ρ _ H .refl hs .nil)⟩
theorem dk_cons {kws : List Keyword} {nm : Option Str} {kpos : Pos} {me : ME} {m : MA} (ha : PD X e me) (hr : PDK X kws m) : PDK X (⟨nm, e, kpos⟩ :: kws) (mCons me m) :=
  ⟨fun pos pins s σ H Q I ⟨ρ, σd, S, ws, S', hs, he, hm, q⟩ => by
    obtain ⟨⟨w1, S1⟩, h1, hm⟩ := Option.bind_eq_some_iff.mp hm
    rw [Option.map_eq_some_iff] at hm
    obtain ⟨⟨ws, S2⟩, h2, h3⟩ := hm
    cases h3
    exact (pk_cons ha hr).run pos pins s σ H Q I ⟨ρ, σd, S, w1, S1, hs, he, h1, fun ρ1 v1 H1 e1 s1 r1 => ⟨ρ1, σd, S1, ws, _, s1, he.ext e1, h2, fun ρ2 vs H2 e2 s2 r2 => q ρ2 _ H2 (e1.trans e2) s2 (.cons (r1.ext e2) r2)⟩⟩⟩
/-- the i-th parameter is given by the (is[i])-th keyword -/
def permL {α : Type} (is : List Nat) (xs : List α) : List α := is.filterMap fun i => xs[i]?
theorem RelWs.perm {K : KW} {ρ : Rho} {H : Hp} {ws : List W} {vs : List V} (r : RelWs K ρ H ws vs) : ∀ is : List Nat, RelWs K ρ H (permL is ws) (permL is vs)
  | [] => .nil
  | i :: is => by
    have get : ∀ {ws : List W} {vs : List V} {i : Nat}, RelWs K ρ H ws vs → (ws[i]? = none ∧ vs[i]? = none) ∨ ∃ w v, ws[i]? = some w ∧ vs[i]? = some v ∧ RelW K ρ H w v := by
      intro ws vs i r
      induction r generalizing i with
      | nil => exact .inl ⟨rfl, rfl⟩
      | cons a _ ih =>
        cases i with
        | zero => exact .inr ⟨_, _, rfl, rfl, a⟩
        | succ i => simpa using ih (i := i)
    have ih := RelWs.perm r is
    unfold permL at ih ⊢
    rcases get (i := i) r with ⟨h1, h2⟩ | ⟨w, v, h1, h2, h3⟩
    · simp only [List.filterMap_cons, h1, h2]; exact ih
    · simp only [List.filterMap_cons, h1, h2]; exact .cons h3 ih
theorem vals_perm {vs : List V} {us : List Value} (r : Vals vs us) : ∀ is : List Nat, Vals (permL is vs) (permL is us)
  | [] => .nil
  | i :: is => by
    have ih := vals_perm r is
    unfold permL at ih ⊢
    cases h : vs[i]? with
    | none =>
      have h2 := r.none_of h
      simp only [List.filterMap_cons, h, h2]; exact ih
    | some v =>
      obtain ⟨u, h2, h3⟩ := r.get h
      simp only [List.filterMap_cons, h, h2]; exact .cons h3 ih
@[simp] def mCallK (is : List Nat) (n : Nat) (g : Fn) (m : MA) : ME := fun σ S => (m σ S).bind fun r => if decide ((permL is r.1).length = n) = true then g (permL is r.1) r.2 else none
theorem d_callK {kws : List Keyword} {ks : List Str} {m : MA} (is : List Nat) (F : FnG X.prog X.w X.K X.mg X.base CX0 k f fd ps (spD (kwOf X) n g)) (hG : X.A.guards = some []) (hr : Room k X.A) (hg : Gl X x) (hm : X.mg x = some (.ref f)) (hk : PySem.W.keepIn X.K (.ref f) = true)
    (hb : ∀ (s : Shared) (ws : List Value), (permL is ws).length = ps.length → BindsTo s fd ⟨[], ks.zip ws⟩ (ps.zip (permL is ws)))
    (ha : PDK X kws m) (hall : (backToKw pos (keywordEach kws X.env)).all (·.1.isSome) = true := by rfl) (hks : (backToKw pos (keywordEach kws X.env)).filterMap (·.1) = ks := by rfl) (hdb : (x == ("__debug__" : Str)) = false := by decide)
    (hpl : ((backTo pos (starEach [] X.env)).any (·.1) || (backToKw pos (keywordEach kws X.env)).any (·.1.isNone)) = false := by rfl) :
    PD X (.Call (.Name x p) [] kws pos) (mCallK is n g m) := by
  refine ⟨fun pins s σ H Q I h => ?_⟩
  obtain ⟨ρ, σd, S, w, S', hs, hE, hmm, q⟩ := h
  obtain ⟨⟨ws, S1⟩, h1, h2⟩ := Option.bind_eq_some_iff.mp hmm
  have arg : tDA (kwOf X) m σ H (fun vs H1 => spD (kwOf X) n g (permL is vs) H1 Q E0) := ⟨ρ, σd, S, ws, S1, hs, hE, h1, fun ρ1 vs H1 e1 s1 r1 => spD_of s1 (r1.perm is) h2 fun ρ2 v H2 e2 s2 r2 => q ρ2 v H2 (e1.trans e2) s2 r2⟩
  refine wpAny_Call_Name_kw (ld_glob I hg hm ?_ hdb)
  refine PySem.W.callWith_KW0 (h₀ := X.base) I.ok.mod.kin hk hall (thn (ha.run pos pins s σ H _ I arg) fun us s1 ⟨vs, H1, I1, r, q1⟩ => ⟨I1.kIn, ?_⟩) hpl
  rw [hks]
  have rp := vals_perm r is
  have hl : (permL is us).length = ps.length := by rw [← rp.length]; exact F.len _ _ _ _ q1
  exact wp_of_code (run_G F hG hr I1 (hb s1 us hl) rp q1)
end

/-! the law -/
section
open PySem.W PySem.Calls
/-- the law's def is called with the script, behind the top -/
theorem law_G {P : Program} {w : World} {K : Frag} {mg mb : Str → Option Value} {k : Nat} {fa a : Addr} {fd : FuncData} {x : Str} {f : Fn} {s₁ : Shared} {vs : List Value} {ns : List Int}
    (KX : K.In s₁.heap) (hns : s₁.heap.Ns mainGlobals mg) (hb : s₁.heap.Ns builtinsNs mb) (hbb : ∀ x : Str, x ≠ "__name__" → mb x = bootBuiltins x) (hlim : s₁.heap.NoLimit) (hg : s₁.gens = #[])
    (ha : s₁.heap.get? a = some { cls := .type "list", data := .seq vs.toArray }) (hi : IntsAre vs ns) (hl : ns.length ≤ sizeLine) (hr : Room k callerA)
    (F : ∀ base : Heap, K.In base → base.Ns mainGlobals mg → FnG P w K mg base CX0 k fa fd [x] (spD ⟨K, w⟩ 1 f)) (hbind : ∀ (s : Shared) (u : Value), BindsTo s fd ⟨[u], []⟩ [(x, u)])
    (hf : ∃ S', f [.sc ns] [] = some (.d (.bool true), S')) :
    codeAny (model P w) callerA (.call (.ref fa) ⟨[.ref a], []⟩) (fun r s' => r = .ok (.ret (.bool true)) ∧ OldK s₁.heap s'.heap ∧ s'.os = s₁.os ∧ AllBare s'.gens) s₁ := by
  obtain ⟨S', hf⟩ := hf
  have rv := vals_ints hi
  -- nothing is tracked but the script, unless it is an object of the written part
  let o0 : Obj := { cls := .type "list", data := .seq vs.toArray }
  let H : Hp := fun b => if b = a ∧ K.lookup a = none then some (.frz o0 (.lst (ns.map V.int))) else none
  have Hat : ∀ b u, H b = some u → b = a ∧ K.lookup a = none ∧ u = .frz o0 (.lst (ns.map V.int)) := fun b u e => by
    by_cases c : b = a ∧ K.lookup a = none
    · have e' : some (HO.frz o0 (.lst (ns.map V.int))) = some u := (if_pos c).symm.trans e
      exact ⟨c.1, c.2, (Option.some.inj e').symm⟩
    · have e' : (none : Option HO) = some u := (if_neg c).symm.trans e
      cases e'
  have hok : HOk P w H s₁.heap := fun b u e => by
    obtain ⟨rfl, _, rfl⟩ := Hat b u e
    exact ⟨ha, by rw [List.length_map]; exact hl, vs, 0, rv, ha⟩
  have free : ∀ {b : Addr} {o : Obj}, s₁.heap.get? b = some o → (b = a → K.lookup a ≠ none ∨ o ≠ o0) → H b = none := fun {b o} e hn => by
    cases q : H b with
    | none => rfl
    | some u =>
      obtain ⟨rfl, hk, _⟩ := Hat b u q
      rcases hn rfl with z | z
      · exact absurd hk z
      · rw [ha] at e; exact absurd (Option.some.inj e).symm z
  have inb : ∀ {b : Addr} {o : Obj}, s₁.heap.get? b = some o → (b = a → K.lookup a ≠ none ∨ o ≠ o0) → (hidT s₁.heap H).get? b = some o := fun e hn => hidT_get e (free e hn)
  have nsB : ∀ {b : Addr} {m : Str → Option Value}, s₁.heap.Ns b m → (hidT s₁.heap H).Ns b m := fun {b m} ⟨o, es, ep, e, d, r⟩ => ⟨o, es, ep, inb e (fun _ => .inr fun z => by rw [z] at d; cases d), d, r⟩
  have KB : K.In (hidT s₁.heap H) := fun b o e => inb (KX b o e) fun z => .inl (by rw [← z, e]; exact fun q => nomatch q)
  have M : Mod K mg (hidT s₁.heap H) := ⟨KB, nsB hns, ⟨mb, nsB hb, hbb⟩, let ⟨mc, h1, h2⟩ := hlim; ⟨mc, nsB h1, h2⟩⟩
  have e0 : Env0 P w K mg (hidT s₁.heap H) callerA [] s₁ H := ⟨rfl, M, fun b o e => of_hidT e, Nat.le_of_eq (hidT_size _ _), trivial, fun b z => (nomatch z), hok, .of_eq hg⟩
  have hs : SRel ⟨K, w⟩ ⟨[], []⟩ H [] := ⟨rfl, fun i a e => by simp at e, fun i j a e => by simp at e, fun i o e => by simp at e, fun a h => by cases h⟩
  have hrel : RelW ⟨K, w⟩ ⟨[], []⟩ H (.sc ns) (.ref a) := by
    refine ⟨a, rfl, ?_⟩
    cases hk : K.lookup a with
    | none => exact .inl ⟨o0, if_pos ⟨rfl, hk⟩, fun z => (nomatch z), fun z => (nomatch z)⟩
    | some o =>
      have e := KX a o hk
      rw [ha] at e
      cases e
      refine .inr ⟨_, vs.toArray, _, hk, rfl, rfl, rfl, ?_, by simpa using rv⟩
      rw [List.size_toArray, hi.length]; exact hl
  have hsp : spD ⟨K, w⟩ 1 f [.ref a] H (fun v _ => v = .bl true) E0 := ⟨⟨[], []⟩, [], [.sc ns], .d (.bool true), S', hs, .cons hrel .nil, rfl, hf, fun ρ' v H' _ _ r => by cases r; rfl⟩
  refine codeAny_mono ((F _ KB (nsB hns)).run callerA rfl hr [] s₁ H e0 ⟨[.ref a], []⟩ [.ref a] [.ref a] (hbind s₁ (.ref a)) (.cons rfl .nil) _ _ hsp) fun r s' h => ?_
  cases r with
  | error e => exact h.elim
  | ok fl =>
    cases fl with
    | next => exact h.elim
    | brk => exact h.elim
    | cont => exact h.elim
    | ret u =>
      obtain ⟨v, H', os, bare, un, hok', r', q⟩ := h
      obtain rfl : v = .bl true := q
      obtain rfl : u = Value.bool true := r'
      refine ⟨rfl, OldK.of_keep fun b o e => ?_, os, bare⟩
      cases q : H b with
      | none => exact un.keep b o e q (fun z => (nomatch z)) (fun z => (nomatch z))
      | some u =>
        obtain ⟨rfl, _, rfl⟩ := Hat b u q
        obtain ⟨e2, _⟩ := hok' b _ (un.frzs b o0 _ q)
        rw [ha] at e; cases e
        exact e2
theorem walk_G {l : OpenLaw} {n k : Nat} {q : Program} {loose : List Str} {XP : (Str → Option Value) → Heap → Prop} {YP : World → Heap → Prop} {d : DefRec} {x : Str}
    (hn : l.most = some n) (hn2 : n ≤ sizeLine) (hdf : d.params.defaults = []) (hr : Room k callerA)
    (F : ∀ (w : World) (mg : Str → Option Value) (fa : Addr) (h : Heap), YP w h → h.Ns mainGlobals mg → mg d.name = some (.ref fa) →
      ∃ (K : Frag) (fd : FuncData) (f : Fn), K.In h ∧ (∀ (s : Shared) (u : Value), BindsTo s fd ⟨[u], []⟩ [(x, u)]) ∧ (∀ ns : List Int, ns.length ≤ n → ∃ S', f [.sc ns] [] = some (.d (.bool true), S')) ∧
        ∀ base : Heap, K.In base → base.Ns mainGlobals mg → FnG l.prog w K mg base CX0 k fa fd [x] (spD ⟨K, w⟩ 1 f)) :
    WalkO q loose XP YP l.row.toRowW d [] (fun f vs => PySem.call f vs) := by
  refine Att.attach_call hn hdf fun w s₀ s₁ mg mb fa o pm cd doc a vs ns G Y ho hd hcd hmg hobj hints hlen hg => ?_
  obtain ⟨K, fd, f, KX, hb, hf, hF⟩ := F w mg fa _ Y G.T.g hmg
  exact law_G KX G.T.g G.T.b G.T.builtins G.T.nolimit hg hobj hints (Nat.le_trans hlen hn2) hr hF hb (hf ns hlen)
end
end DL

set_option Elab.async false
set_option linter.all false
set_option maxRecDepth 100000
set_option autoImplicit false
/-! The data layer, 6: operators, subscripts, slices, what is built in. -/
noncomputable section
namespace DL
open PySem PySem.Spec PyProof.Rows L2

section
variable {X : Cx}
/-! numbers -/
def vAdd : G2 := fun S x y => match x, y with
  | .d (.int i), .d (.int j) => some (.d (.int (i + j)))
  | .d (.str a), .d (.str b) => if fits (a.length + b.length) = true then some (.d (.str (a ++ b))) else none
  | .d (.tuple xs), .d (.tuple ys) => if fits (xs.length + ys.length) = true then some (.d (.tuple (xs ++ ys))) else none
  | .d (.list xs), .d (.list ys) => if fits (xs.length + ys.length) = true then some (.d (.list (xs ++ ys))) else none
  | _, _ => none
theorem rep_tup {ρ : Rho} {H : Hp} {ds : List D} {v : V} (r : Rep ρ H (.tuple ds) v) : ∃ a vs, v = .ref a ∧ H a = some (.tup vs) ∧ ρ.Fr a ∧ RepL ρ H ds vs := by
  cases r with
  | tup h1 h2 h3 => exact ⟨_, _, rfl, h1, h2, h3⟩
theorem rep_lst {ρ : Rho} {H : Hp} {ds : List D} {v : V} (r : Rep ρ H (.list ds) v) : ∃ a vs, v = .ref a ∧ H a = some (.lst vs) ∧ ρ.Fr a ∧ RepL ρ H ds vs := by
  cases r with
  | lst h1 h2 h3 => exact ⟨_, _, rfl, h1, h2, h3⟩
theorem o_add : OpD X (binaryOp .Add) vAdd := by
  rintro pins s σ H v u v' u' Q I r1 r2 ⟨ρ, S, x, y, w, hs, rx, ry, hg, q⟩
  unfold vAdd at hg
  split at hg
  · cases hg
    cases rx; cases ry
    exact op_add pins s σ H _ _ _ _ Q I r1 r2 ⟨_, _, rfl, rfl, q ρ _ H .refl hs (.int _)⟩
  · obtain ⟨hf, hg⟩ := some_if hg
    cases hg
    cases rx; cases ry
    exact op_add_str pins s σ H _ _ _ _ Q I r1 r2 ⟨_, _, rfl, rfl, fits_ok hf, q ρ _ H .refl hs (.str _)⟩
  · rename_i xs ys
    obtain ⟨hf, hg⟩ := some_if hg
    cases hg
    obtain ⟨a, vs, rfl, h1, h2, h3⟩ := rep_tup rx
    obtain ⟨b, us, rfl, g1, g2, g3⟩ := rep_tup ry
    refine op_catA pins s σ H _ _ _ _ Q I r1 r2 ⟨a, b, vs, us, rfl, rfl, SqT.of h1, SqT.of g1, by rw [← h3.length, ← g3.length]; exact fits_ok hf, fun e => ?_, fun e e' => ?_, fun e e' p hp => ?_⟩
    · subst e
      cases h3
      exact q ρ _ H .refl hs (.tup g1 g2 g3)
    · subst e'
      cases g3
      rw [List.append_nil] at q
      exact q ρ _ H .refl hs (.tup h1 h2 h3)
    · exact q ρ _ _ (Ext.new hp) (hs.new hp) (.tup upd_same (hs.fresh hp) ((h3.append g3).ext (Ext.new hp)))
  · rename_i xs ys
    obtain ⟨hf, hg⟩ := some_if hg
    cases hg
    obtain ⟨a, vs, rfl, h1, h2, h3⟩ := rep_lst rx
    obtain ⟨b, us, rfl, g1, g2, g3⟩ := rep_lst ry
    refine op_cat pins s σ H _ _ _ _ Q I r1 r2 ⟨a, b, vs, us, rfl, rfl, h1, g1, by rw [← h3.length, ← g3.length]; exact fits_ok hf, fun p hp => ?_⟩
    exact q ρ _ _ (Ext.new hp) (hs.new hp) (.lst upd_same (hs.fresh hp) ((h3.append g3).ext (Ext.new hp)))
  · cases hg
def vSub : G2 := fun S x y => match x, y with
  | .d (.int i), .d (.int j) => some (.d (.int (i - j)))
  | _, _ => none
theorem o_sub : OpD X (binaryOp .Sub) vSub := by
  rintro pins s σ H v u v' u' Q I r1 r2 ⟨ρ, S, x, y, w, hs, rx, ry, hg, q⟩
  unfold vSub at hg
  split at hg
  · cases hg
    cases rx; cases ry
    exact op_sub pins s σ H _ _ _ _ Q I r1 r2 ⟨_, _, rfl, rfl, q ρ _ H .refl hs (.int _)⟩
  · cases hg
/-- one of the factors small, or both of known size -/
def mulOk (i j : Int) : Bool := says (-(2 ^ 64) < i ∧ i < 2 ^ 64) || says (-(2 ^ 64) < j ∧ j < 2 ^ 64) || says (i.natAbs.log2 + j.natAbs.log2 < 1000000)
def vMul : G2 := fun S x y => match x, y with
  | .d (.int i), .d (.int j) => if mulOk i j = true then some (.d (.int (i * j))) else none
  | _, _ => none
theorem o_mul : OpD X (binaryOp .Mult) vMul := by
  rintro pins s σ H v u v' u' Q I r1 r2 ⟨ρ, S, x, y, w, hs, rx, ry, hg, q⟩
  unfold vMul at hg
  split at hg
  · obtain ⟨hf, hg⟩ := some_if hg
    cases hg
    cases rx; cases ry
    unfold mulOk at hf
    rw [Bool.or_eq_true, Bool.or_eq_true, says_iff, says_iff, says_iff] at hf
    rcases hf with hf | hf
    · exact op_mul pins s σ H _ _ _ _ Q I r1 r2 ⟨_, _, rfl, rfl, hf, q ρ _ H .refl hs (.int _)⟩
    · exact op_mulW pins s σ H _ _ _ _ Q I r1 r2 ⟨_, _, rfl, rfl, hf, q ρ _ H .refl hs (.int _)⟩
  · cases hg
def divOk (j : Int) : Bool := says (0 < j ∧ j < 2 ^ 64)
def vFdiv : G2 := fun S x y => match x, y with
  | .d (.int i), .d (.int j) => if divOk j = true then some (.d (.int (i / j))) else none
  | _, _ => none
theorem o_fdiv : OpD X (binaryOp .FloorDiv) vFdiv := by
  rintro pins s σ H v u v' u' Q I r1 r2 ⟨ρ, S, x, y, w, hs, rx, ry, hg, q⟩
  unfold vFdiv at hg
  split at hg
  · obtain ⟨hf, hg⟩ := some_if hg
    cases hg
    cases rx; cases ry
    have hf := says_of hf
    exact op_fdivW pins s σ H _ _ _ _ Q I r1 r2 ⟨_, _, rfl, rfl, wide_div (b := 64) hf.1 (by omega) (by decide) (by decide), q ρ _ H .refl hs (.int _)⟩
  · cases hg
def vMod : G2 := fun S x y => match x, y with
  | .d (.int i), .d (.int j) => if decide (0 < j) = true then some (.d (.int (i % j))) else none
  | _, _ => none
theorem o_mod : OpD X (binaryOp .Mod) vMod := by
  rintro pins s σ H v u v' u' Q I r1 r2 ⟨ρ, S, x, y, w, hs, rx, ry, hg, q⟩
  unfold vMod at hg
  split at hg
  · obtain ⟨hf, hg⟩ := some_if hg
    cases hg
    cases rx; cases ry
    exact op_mod pins s σ H _ _ _ _ Q I r1 r2 ⟨_, _, rfl, rfl, of_decide_eq_true hf, q ρ _ H .refl hs (.int _)⟩
  · cases hg
def powOk (i j : Int) : Bool := says (0 ≤ j) && (says (j ≤ 1000000 ∧ i.natAbs < 2 ^ 64) || says ((Builtin.Int.intBits i : Int) * j ≤ 134217728))
def vPow : G2 := fun S x y => match x, y with
  | .d (.int i), .d (.int j) => if powOk i j = true then some (.d (.int (i ^ j.toNat))) else none
  | _, _ => none
theorem o_pow : OpD X (binaryOp .Pow) vPow := by
  rintro pins s σ H v u v' u' Q I r1 r2 ⟨ρ, S, x, y, w, hs, rx, ry, hg, q⟩
  unfold vPow at hg
  split at hg
  · obtain ⟨hf, hg⟩ := some_if hg
    cases hg
    cases rx; cases ry
    unfold powOk at hf
    rw [Bool.and_eq_true, Bool.or_eq_true, says_iff, says_iff, says_iff] at hf
    obtain ⟨h0, hf⟩ := hf
    rcases hf with hf | hf
    · exact op_pow pins s σ H _ _ _ _ Q I r1 r2 ⟨_, _, rfl, rfl, ⟨h0, hf.1, hf.2⟩, q ρ _ H .refl hs (.int _)⟩
    · obtain ⟨t, rfl⟩ := r1
      obtain ⟨t', rfl⟩ := r2
      exact pow_int h0 (by omega) ⟨.int _, H, I.tok _, ⟨_, rfl⟩, q ρ _ H .refl hs (.int _)⟩
  · cases hg
def vInt2 (f : Int → Int → Int) : G2 := fun S x y => match x, y with
  | .d (.int i), .d (.int j) => some (.d (.int (f i j)))
  | _, _ => none
theorem o_xor : OpD X (binaryOp .BitXor) (vInt2 Builtin.bitXor) := by
  rintro pins s σ H v u v' u' Q I r1 r2 ⟨ρ, S, x, y, w, hs, rx, ry, hg, q⟩
  unfold vInt2 at hg
  split at hg
  · cases hg
    cases rx; cases ry
    exact op_xor pins s σ H _ _ _ _ Q I r1 r2 ⟨_, _, rfl, rfl, q ρ _ H .refl hs (.int _)⟩
  · cases hg
theorem o_and : OpD X (binaryOp .BitAnd) (vInt2 Builtin.bitAnd) := by
  rintro pins s σ H v u v' u' Q I r1 r2 ⟨ρ, S, x, y, w, hs, rx, ry, hg, q⟩
  unfold vInt2 at hg
  split at hg
  · cases hg
    cases rx; cases ry
    exact op_and pins s σ H _ _ _ _ Q I r1 r2 ⟨_, _, rfl, rfl, q ρ _ H .refl hs (.int _)⟩
  · cases hg
def vNeg : G1 := fun S x => match x with
  | .d (.int i) => some (.d (.int (-i)))
  | _ => none
theorem o_neg : UnD X (unaryOp .USub) vNeg := by
  rintro pins s σ H v v' Q I r1 ⟨ρ, S, x, w, hs, rx, hg, q⟩
  unfold vNeg at hg
  split at hg
  · cases hg
    cases rx
    exact un_neg pins s σ H _ _ Q I r1 ⟨_, rfl, q ρ _ H .refl hs (.int _)⟩
  · cases hg

/-! order of numbers -/
def vCmp (f : Int → Int → Bool) : G2 := fun S x y => match x, y with
  | .d (.int i), .d (.int j) => some (.d (.bool (f i j)))
  | _, _ => none
theorem cmp_of {op : CmpOp} {f : Int → Int → Bool} (ho : OpR X (compareOp op) (rI0 fun i j => .bl (f i j))) : OpD X (compareOp op) (vCmp f) := by
  rintro pins s σ H v u v' u' Q I r1 r2 ⟨ρ, S, x, y, w, hs, rx, ry, hg, q⟩
  unfold vCmp at hg
  split at hg
  · cases hg
    cases rx; cases ry
    exact ho pins s σ H _ _ _ _ Q I r1 r2 ⟨_, _, rfl, rfl, q ρ _ H .refl hs (.bl _)⟩
  · cases hg
abbrev vLt := vCmp fun i j => decide (i < j)
abbrev vLe := vCmp fun i j => decide (i ≤ j)
abbrev vGt := vCmp fun i j => decide (j < i)
abbrev vGe := vCmp fun i j => decide (j ≤ i)
theorem o_lt : OpD X (compareOp .Lt) vLt := cmp_of op_lt
theorem o_le : OpD X (compareOp .LtE) vLe := cmp_of op_le
theorem o_gt : OpD X (compareOp .Gt) vGt := cmp_of op_gt
theorem o_ge : OpD X (compareOp .GtE) vGe := cmp_of op_ge

/-! equality of data -/
def asD (S : Sto) : W → Option D
  | .d x => some x
  | .loc i => match S[i]? with
    | some (.lst xs) => some (.list xs)
    | _ => none
  | _ => none
mutual
theorem Rep.dp {K : PySem.W.Frag} {ρ : Rho} {H : Hp} : ∀ {d : D} {v : V}, Rep ρ H d v → Dp K H v d
  | _, _, .non => .non
  | _, _, .bl b => .bl b
  | _, _, .int i => .int i
  | _, _, .str x => .str x
  | _, _, .tup h _ r => .tup (SqT.of h) (RepL.dp r)
  | _, _, .lst h _ r => .lst (SqL.of h) (RepL.dp r)
theorem RepL.dp {K : PySem.W.Frag} {ρ : Rho} {H : Hp} : ∀ {ds : List D} {vs : List V}, RepL ρ H ds vs → DpAll K H vs ds
  | _, _, .nil => .nil
  | _, _, .cons r t => .cons (Rep.dp r) (RepL.dp t)
end
theorem asD_dp {K : KW} {ρ : Rho} {H : Hp} {S : Sto} (hs : SRel K ρ H S) {w : W} {v : V} {d : D} (r : RelW K ρ H w v) (h : asD S w = some d) : Dp K.k H v d := by
  cases w with
  | d x => cases h; exact Rep.dp r
  | loc i =>
    simp only [asD] at h
    split at h
    · rename_i xs e
      cases h
      obtain ⟨a, vs, rfl, _, h2, h3⟩ := hs.lst_at r e
      exact .lst (SqL.of h2) h3.dp
    · cases h
  | _ => cases h
def strs2 : W → W → Option (Str × Str)
  | .d (.str a), .d (.str b) => some (a, b)
  | _, _ => none
theorem strs2_rel {K : KW} {ρ : Rho} {H : Hp} {x y : W} {v u : V} {a b : Str} (h : strs2 x y = some (a, b)) (rx : RelW K ρ H x v) (ry : RelW K ρ H y u) : v = .str a ∧ u = .str b := by
  unfold strs2 at h
  split at h
  · cases h; cases rx; cases ry; exact ⟨rfl, rfl⟩
  · cases h
def vEq : G2 := fun S x y => match strs2 x y with
  | some (a, b) => some (.d (.bool (a == b)))
  | none => (asD S x).bind fun a => (asD S y).bind fun b => if (SeqAt.shaped a && SeqAt.shaped b) = true then some (.d (.bool (PyData.eqv a b))) else none
def vNe : G2 := fun S x y => match strs2 x y with
  | some (a, b) => some (.d (.bool (!(a == b))))
  | none => (asD S x).bind fun a => (asD S y).bind fun b => if (SeqAt.shaped a && SeqAt.shaped b) = true then some (.d (.bool (!PyData.eqv a b))) else none
theorem o_eq (hu : X.A.units + 64 < cLine) : OpD X (compareOp .Eq) vEq := by
  rintro pins s σ H v u v' u' Q I r1 r2 ⟨ρ, S, x, y, w, hs, rx, ry, hg, q⟩
  unfold vEq at hg
  split at hg
  · rename_i a b h
    cases hg
    obtain ⟨rfl, rfl⟩ := strs2_rel h rx ry
    refine L2.op_eq pins s σ H _ _ _ _ Q I r1 r2 ⟨rfl, ?_⟩
    rw [dec_str]
    exact q ρ _ H .refl hs (.bl _)
  · obtain ⟨a, ha, hg⟩ := Option.bind_eq_some_iff.mp hg
    obtain ⟨b, hb, hg⟩ := Option.bind_eq_some_iff.mp hg
    obtain ⟨hf, hg⟩ := some_if hg
    cases hg
    rw [Bool.and_eq_true] at hf
    exact op_eqD hu pins s σ H _ _ _ _ Q I r1 r2 ⟨a, b, asD_dp hs rx ha, asD_dp hs ry hb, hf.1, hf.2, q ρ _ H .refl hs (.bl _)⟩
theorem o_ne (hu : X.A.units + 64 < cLine) : OpD X (compareOp .NotEq) vNe := by
  rintro pins s σ H v u v' u' Q I r1 r2 ⟨ρ, S, x, y, w, hs, rx, ry, hg, q⟩
  unfold vNe at hg
  split at hg
  · rename_i a b h
    cases hg
    obtain ⟨rfl, rfl⟩ := strs2_rel h rx ry
    refine L2.op_ne pins s σ H _ _ _ _ Q I r1 r2 ⟨rfl, ?_⟩
    rw [dec_str]
    exact q ρ _ H .refl hs (.bl _)
  · obtain ⟨a, ha, hg⟩ := Option.bind_eq_some_iff.mp hg
    obtain ⟨b, hb, hg⟩ := Option.bind_eq_some_iff.mp hg
    obtain ⟨hf, hg⟩ := some_if hg
    cases hg
    rw [Bool.and_eq_true] at hf
    exact op_neD hu pins s σ H _ _ _ _ Q I r1 r2 ⟨a, b, asD_dp hs rx ha, asD_dp hs ry hb, hf.1, hf.2, q ρ _ H .refl hs (.bl _)⟩
/-- is None, is True: the right side a constant -/
def isNone : W → Bool
  | .d .none => true
  | _ => false
def vIsN : G2 := fun S x y => match x, y with
  | .d a, .d .none => some (.d (.bool (isNone (.d a))))
  | .loc i, .d .none => if (S[i]?.bind fun o => match o with | .dead => none | _ => some ()).isSome = true then some (.d (.bool false)) else none
  | .ct _, .d .none => some (.d (.bool false))
  | _, _ => none
def vIsNN : G2 := fun S x y => match x, y with
  | .d a, .d .none => some (.d (.bool (!isNone (.d a))))
  | .loc i, .d .none => if (S[i]?.bind fun o => match o with | .dead => none | _ => some ()).isSome = true then some (.d (.bool true)) else none
  | .ct _, .d .none => some (.d (.bool true))
  | _, _ => none
theorem isNone_rel {ρ : Rho} {H : Hp} {a : D} {v : V} (r : Rep ρ H a v) : decide (v = .non) = isNone (.d a) := by cases r <;> rfl
theorem live_ref {K : KW} {ρ : Rho} {H : Hp} {S : Sto} (hs : SRel K ρ H S) {i : Nat} {v : V} (r : RelW K ρ H (.loc i) v) (h : (S[i]?.bind fun o => match o with | .dead => none | _ => some ()).isSome = true) : ∃ a, v = .ref a := by
  cases e : S[i]? with
  | none => rw [e] at h; cases h
  | some o =>
    have ho : o ≠ .dead := by rintro rfl; rw [e] at h; cases h
    obtain ⟨a, q⟩ := hs.live i o e ho
    exact ⟨a, r.2 a q⟩
theorem o_isN : OpD X (compareOp .Is) vIsN := by
  rintro pins s σ H v u v' u' Q I r1 r2 ⟨ρ, S, x, y, w, hs, rx, ry, hg, q⟩
  unfold vIsN at hg
  split at hg
  · cases hg
    cases ry
    exact L2.op_isN pins s σ H _ _ _ _ Q I r1 r2 ⟨rfl, by rw [isNone_rel rx]; exact q ρ _ H .refl hs (.bl _)⟩
  · obtain ⟨hf, hg⟩ := some_if hg
    cases hg
    cases ry
    obtain ⟨a, rfl⟩ := live_ref hs rx hf
    exact L2.op_isN pins s σ H _ _ _ _ Q I r1 r2 ⟨rfl, q ρ _ H .refl hs (.bl _)⟩
  · cases hg
    cases ry
    obtain ⟨a, vs, rfl, _⟩ := rx
    exact L2.op_isN pins s σ H _ _ _ _ Q I r1 r2 ⟨rfl, q ρ _ H .refl hs (.bl _)⟩
  · cases hg
theorem o_isNN : OpD X (compareOp .IsNot) vIsNN := by
  rintro pins s σ H v u v' u' Q I r1 r2 ⟨ρ, S, x, y, w, hs, rx, ry, hg, q⟩
  unfold vIsNN at hg
  split at hg
  · cases hg
    cases ry
    exact L2.op_notN pins s σ H _ _ _ _ Q I r1 r2 ⟨rfl, by rw [isNone_rel rx]; exact q ρ _ H .refl hs (.bl _)⟩
  · obtain ⟨hf, hg⟩ := some_if hg
    cases hg
    cases ry
    obtain ⟨a, rfl⟩ := live_ref hs rx hf
    exact L2.op_notN pins s σ H _ _ _ _ Q I r1 r2 ⟨rfl, q ρ _ H .refl hs (.bl _)⟩
  · cases hg
    cases ry
    obtain ⟨a, vs, rfl, _⟩ := rx
    exact L2.op_notN pins s σ H _ _ _ _ Q I r1 r2 ⟨rfl, q ρ _ H .refl hs (.bl _)⟩
  · cases hg
def vIsB : G2 := fun S x y => match x, y with
  | .d (.bool a), .d (.bool b) => some (.d (.bool (decide (a = b))))
  | _, _ => none
def vIsNB : G2 := fun S x y => match x, y with
  | .d (.bool a), .d (.bool b) => some (.d (.bool (!decide (a = b))))
  | _, _ => none
theorem o_isB : OpD X (compareOp .Is) vIsB := by
  rintro pins s σ H v u v' u' Q I r1 r2 ⟨ρ, S, x, y, w, hs, rx, ry, hg, q⟩
  unfold vIsB at hg
  split at hg
  · cases hg
    cases rx; cases ry
    exact op_isBl pins s σ H _ _ _ _ Q I r1 r2 ⟨_, _, rfl, rfl, q ρ _ H .refl hs (.bl _)⟩
  · cases hg
theorem o_isNB : OpD X (compareOp .IsNot) vIsNB := by
  rintro pins s σ H v u v' u' Q I r1 r2 ⟨ρ, S, x, y, w, hs, rx, ry, hg, q⟩
  unfold vIsNB at hg
  split at hg
  · cases hg
    cases rx; cases ry
    exact op_notBl pins s σ H _ _ _ _ Q I r1 r2 ⟨_, _, rfl, rfl, q ρ _ H .refl hs (.bl _)⟩
  · cases hg

/-! dicts -/
def keyD : D → Option Key
  | .int i => some (.inl i)
  | .str x => some (.inr x)
  | _ => none
def keysD : List D → Option (List Key)
  | [] => some []
  | d :: ds => (keyD d).bind fun k => (keysD ds).map fun ks => k :: ks
def keyT : D → Option (List Key)
  | .tuple ds => keysD ds
  | _ => none
theorem keyD_rel {ρ : Rho} {H : Hp} {d : D} {v : V} {k : Key} (r : Rep ρ H d v) (h : keyD d = some k) : v = kV k := by
  cases r <;> cases h <;> rfl
theorem keysD_rel {ρ : Rho} {H : Hp} : ∀ {ds : List D} {vs : List V} {ks : List Key}, RepL ρ H ds vs → keysD ds = some ks → vs = ks.map kV
  | [], _, _, r, h => by cases r; cases h; rfl
  | d :: ds, _, _, r, h => by
    cases r with
    | cons r1 r2 =>
      obtain ⟨k, h1, h2⟩ := Option.bind_eq_some_iff.mp h
      rw [Option.map_eq_some_iff] at h2
      obtain ⟨ks, h3, h4⟩ := h2
      cases h4
      rw [keyD_rel r1 h1, keysD_rel r2 h3]
      rfl
theorem keyT_rel {ρ : Rho} {H : Hp} {d : D} {v : V} {ks : List Key} (r : Rep ρ H d v) (h : keyT d = some ks) : ∃ b, v = .ref b ∧ H b = some (.tup (ks.map kV)) := by
  cases r with
  | tup h1 _ h3 => exact ⟨_, rfl, by rw [h1, keysD_rel h3 h]⟩
  | _ => cases h
section
variable {κ : Type} [DecidableEq κ]
def valD (kvs : List (κ × D)) (k : κ) : Option D := (kvs.find? fun kv => decide (kv.1 = k)).map (·.2)
def putD (kvs : List (κ × D)) (k : κ) (d : D) : List (κ × D) := if (valD kvs k).isSome then kvs.map fun kv => if kv.1 = k then (kv.1, d) else kv else kvs ++ [(k, d)]
theorem RepKV.val {ρ : Rho} {H : Hp} {kvs : List (κ × D)} {us : List (κ × V)} (r : RepKV ρ H kvs us) (k : κ) : (valD kvs k = none ∧ valV us k = none) ∨ ∃ d v, valD kvs k = some d ∧ valV us k = some v ∧ Rep ρ H d v := by
  induction r with
  | nil => exact .inl ⟨rfl, rfl⟩
  | @cons k' d v r s h _ ih =>
    by_cases e : k' = k
    · refine .inr ⟨d, v, ?_, ?_, h⟩
      · simp [valD, List.find?_cons, e]
      · exact valV_pos e
    · have h1 : valD ((k', d) :: r) k = valD r k := by simp [valD, List.find?_cons, e]
      rw [h1, valV_neg (by exact e)]
      exact ih
theorem RepKV.length {ρ : Rho} {H : Hp} {kvs : List (κ × D)} {us : List (κ × V)} (r : RepKV ρ H kvs us) : kvs.length = us.length := by
  induction r with
  | nil => rfl
  | cons _ _ ih => simp [ih]
theorem RepKV.put {ρ : Rho} {H : Hp} {kvs : List (κ × D)} {us : List (κ × V)} (r : RepKV ρ H kvs us) (k : κ) {d : D} {v : V} (rv : Rep ρ H d v) : RepKV ρ H (putD kvs k d) (putK us k v) := by
  have hmap : RepKV ρ H (kvs.map fun kv => if kv.1 = k then (kv.1, d) else kv) (us.map fun kv => if kv.1 = k then (kv.1, v) else kv) := by
    induction r with
    | nil => exact .nil
    | @cons k' d' v' r s h _ ih =>
      simp only [List.map_cons]
      by_cases e : k' = k
      · rw [if_pos e, if_pos e]; exact .cons rv ih
      · rw [if_neg e, if_neg e]; exact .cons h ih
  have happ : RepKV ρ H (kvs ++ [(k, d)]) (us ++ [(k, v)]) := by
    clear hmap
    induction r with
    | nil => exact .cons rv .nil
    | cons h _ ih => exact .cons h ih
  rcases r.val k with ⟨h1, h2⟩ | ⟨d', v', h1, h2, _⟩
  · rw [putK_new v h2]
    unfold putD
    rw [h1]
    exact happ
  · have e2 : putK us k v = us.map fun kv => if kv.1 = k then (kv.1, v) else kv := by
      unfold putK
      rw [valV_any, h2]
      rfl
    rw [e2]
    unfold putD
    rw [h1]
    exact hmap
end
theorem dict_at {K : KW} {ρ : Rho} {H : Hp} {S : Sto} (hs : SRel K ρ H S) {i : Nat} {v : V} {o : O} (r : RelW K ρ H (.loc i) v) (h : S[i]? = some o) (ho : o ≠ .dead) : ∃ a, v = .ref a ∧ ρ.l[i]? = some (some a) ∧ ORel K ρ H a o := by
  obtain ⟨a, q⟩ := hs.live i o h ho
  obtain ⟨o', h1, h2⟩ := hs.obj i a q
  rw [h] at h1; cases h1
  exact ⟨a, r.2 a q, q, h2⟩
/-- what a dict holds at a key -/
def lookD (S : Sto) : W → W → Option (Option D)
  | .loc i, .d k => match S[i]? with
    | some (.dK kvs) => (keyD k).map fun k => valD kvs k
    | some (.dT kvs) => (keyT k).map fun k => valD kvs k
    | _ => none
  | .kd _ kvs, .d k => (keyD k).map fun k => valD kvs k
  | .td _ kvs, .d k => (keyT k).map fun k => valD kvs k
  | _, _ => none
theorem lookD_rel {K : KW} {ρ : Rho} {H : Hp} {S : Sto} (hs : SRel K ρ H S) {x y : W} {v u : V} {o : Option D} (rx : RelW K ρ H x v) (ry : RelW K ρ H y u) (h : lookD S x y = some o) :
    ∃ a ov, v = .ref a ∧ DGet H a u ov ∧ ((o = none ∧ ov = none) ∨ ∃ d w, o = some d ∧ ov = some w ∧ Rep ρ H d w) := by
  unfold lookD at h
  split at h
  · rename_i i k
    split at h
    · rename_i kvs e
      rw [Option.map_eq_some_iff] at h
      obtain ⟨k', h1, rfl⟩ := h
      obtain ⟨a, rfl, _, us, h2, h3⟩ := dict_at hs rx e (by intro z; cases z)
      have := keyD_rel ry h1
      subst this
      exact ⟨a, _, rfl, DGet.k h2, h3.val k'⟩
    · rename_i kvs e
      rw [Option.map_eq_some_iff] at h
      obtain ⟨k', h1, rfl⟩ := h
      obtain ⟨a, rfl, _, us, h2, h3⟩ := dict_at hs rx e (by intro z; cases z)
      obtain ⟨b, rfl, hb⟩ := keyT_rel ry h1
      exact ⟨a, _, rfl, DGet.t h2 hb, h3.val k'⟩
    · cases h
  · rename_i b kvs k
    rw [Option.map_eq_some_iff] at h
    obtain ⟨k', h1, rfl⟩ := h
    obtain ⟨a, us, rfl, _, h2, _, h3⟩ := rx
    have := keyD_rel ry h1
    subst this
    exact ⟨a, _, rfl, .inl ⟨us, k', h2, rfl, rfl⟩, h3.val k'⟩
  · rename_i b kvs k
    rw [Option.map_eq_some_iff] at h
    obtain ⟨k', h1, rfl⟩ := h
    obtain ⟨a, us, rfl, _, h2, _, h3⟩ := rx
    obtain ⟨b, rfl, hb⟩ := keyT_rel ry h1
    exact ⟨a, _, rfl, .inr ⟨us, k', b, h2, rfl, hb, rfl⟩, h3.val k'⟩
  · cases h
def vDGet : G2 := fun S x y => (lookD S x y).bind fun o => o.map W.d
theorem d_dget {o i : Expr} {pos : Pos} {mo mi : ME} (hu : X.A.units + 1 < cLine) (ho : PD X o mo) (hi : PD X i mi) (hs : NoSl i) : PD X (.Subscript o i pos) (mBin vDGet mo mi) :=
  peImp (pe_dget hu ho hi hs) fun σ H Q h => by
    obtain ⟨ρ, σd, S, w, S', hs, he, hm, q⟩ := h
    obtain ⟨⟨w1, S1⟩, h1, hm⟩ := Option.bind_eq_some_iff.mp hm
    obtain ⟨⟨w2, S2⟩, h2, hm⟩ := Option.bind_eq_some_iff.mp hm
    rw [Option.map_eq_some_iff] at hm
    obtain ⟨w', h3, h4⟩ := hm
    cases h4
    obtain ⟨od, h5, h6⟩ := Option.bind_eq_some_iff.mp h3
    rw [Option.map_eq_some_iff] at h6
    obtain ⟨d, rfl, rfl⟩ := h6
    refine ⟨ρ, σd, S, w1, S1, hs, he, h1, fun ρ1 v1 H1 e1 s1 r1 => ⟨ρ1, σd, S1, w2, S2, s1, he.ext e1, h2, fun ρ2 v2 H2 e2 s2 r2 => ?_⟩⟩
    obtain ⟨a, ov, rfl, g, hh⟩ := lookD_rel s2 (r1.ext e2) r2 h5
    rcases hh with ⟨z, _⟩ | ⟨d', v', e3, rfl, rv⟩
    · cases z
    · cases e3
      exact ⟨a, v', rfl, g, q ρ2 v' H2 (e1.trans e2) s2 rv⟩
/-- membership -/
def flatD : D → Bool
  | .none => true
  | .bool _ => true
  | .int _ => true
  | .str _ => true
  | _ => false
def hasD (d : D) (ds : List D) : Bool := ds.any fun z => PyData.eqv z d
def memOk (d : D) (ds : List D) : Bool := flatD d && ds.all flatD
def vHas (S : Sto) (x y : W) : Option Bool := match lookD S y x with
  | some o => some o.isSome
  | none => (asD S x).bind fun d => match asT y with
    | some ds => if memOk d ds = true then some (hasD d ds) else match y with
      | .d _ => if (SeqAt.shaped d && SeqAt.shaped (.tuple ds)) = true then some (hasD d ds) else none
      | _ => none
    | none => (asL S y).bind fun ds => if memOk d ds = true then some (hasD d ds) else match y with
      | .d _ => if (SeqAt.shaped d && SeqAt.shaped (.list ds)) = true then some (hasD d ds) else none
      | .loc _ => if (SeqAt.shaped d && SeqAt.shaped (.list ds)) = true then some (hasD d ds) else none
      | _ => none
def vIn : G2 := fun S x y => (vHas S x y).map fun b => .d (.bool b)
def vNotIn : G2 := fun S x y => (vHas S x y).map fun b => .d (.bool (!b))
theorem flat_rel {ρ : Rho} {H : Hp} {d : D} {v : V} (r : Rep ρ H d v) (h : flatD d = true) : flatV v = true := by cases r <;> first | rfl | cases h
theorem flatL_rel {ρ : Rho} {H : Hp} : ∀ {ds : List D} {vs : List V}, RepL ρ H ds vs → ds.all flatD = true → vs.all flatV = true
  | _, _, .nil, _ => rfl
  | _, _, .cons r t, h => by
    rw [List.all_cons, Bool.and_eq_true] at h ⊢
    exact ⟨flat_rel r h.1, flatL_rel t h.2⟩
theorem eqV_rel {ρ : Rho} {H : Hp} {d e : D} {v u : V} (r : Rep ρ H d v) (r' : Rep ρ H e u) (h : flatD d = true) (h' : flatD e = true) : eqV v u = PyData.eqv d e := by
  cases r <;> first
    | (cases h; done)
    | (cases r' <;> first
      | (cases h'; done)
      | (simp [eqV, PyData.eqv]; done)
      | rfl)
theorem inV_rel {ρ : Rho} {H : Hp} {d : D} {v : V} (r : Rep ρ H d v) (h : flatD d = true) : ∀ {ds : List D} {vs : List V}, RepL ρ H ds vs → ds.all flatD = true → inV v vs = hasD d ds
  | _, _, .nil, _ => rfl
  | _, _, .cons r1 t, hh => by
    rw [List.all_cons, Bool.and_eq_true] at hh
    have ih := inV_rel r h t hh.2
    unfold inV hasD at ih ⊢
    rw [List.any_cons, List.any_cons, eqV_rel r1 r hh.1 h, ih]
theorem vHas_cases {K : KW} {ρ : Rho} {H : Hp} {S : Sto} (hs : SRel K ρ H S) {x y : W} {v u : V} {b : Bool} (rx : RelW K ρ H x v) (ry : RelW K ρ H y u) (h : vHas S x y = some b) :
    (∃ a ov, u = .ref a ∧ DGet H a v ov ∧ b = ov.isSome) ∨ (∃ p xs, u = .ref p ∧ (SqL K.k H p xs ∨ SqT K.k H p xs) ∧ flatV v = true ∧ xs.all flatV = true ∧ b = inV v xs) ∨
      (∃ d ds, Dp K.k H v d ∧ Dp K.k H u (.list ds) ∧ SeqAt.shaped d = true ∧ SeqAt.shaped (.list ds) = true ∧ b = (ds.any fun z => PyData.eqv z d)) ∨
      ∃ d ds, Dp K.k H v d ∧ Dp K.k H u (.tuple ds) ∧ SeqAt.shaped d = true ∧ SeqAt.shaped (.tuple ds) = true ∧ b = (ds.any fun z => PyData.eqv z d) := by
  unfold vHas at h
  split at h
  · rename_i o ho
    cases h
    obtain ⟨a, ov, rfl, g, hh⟩ := lookD_rel hs ry rx ho
    refine .inl ⟨a, ov, rfl, g, ?_⟩
    rcases hh with ⟨rfl, rfl⟩ | ⟨d, w, rfl, rfl, _⟩ <;> rfl
  · obtain ⟨d, hd, h⟩ := Option.bind_eq_some_iff.mp h
    have flat : ∀ {ds : List D} {p : Addr} {xs : List V}, (SqL K.k H p xs ∨ SqT K.k H p xs) → RepL ρ H ds xs → memOk d ds = true → flatV v = true ∧ xs.all flatV = true ∧ hasD d ds = inV v xs := fun {ds p xs} _ r hm => by
      unfold memOk at hm
      rw [Bool.and_eq_true] at hm
      have rd : Rep ρ H d v := by
        cases x with
        | d z => cases hd; exact rx
        | loc i =>
          simp only [asD] at hd
          split at hd
          · cases hd; cases hm.1
          · cases hd
        | _ => cases hd
      exact ⟨flat_rel rd hm.1, flatL_rel r hm.2, (inV_rel rd hm.1 r hm.2).symm⟩
    split at h
    · rename_i ds hT
      split at h
      · rename_i hm
        cases h
        obtain ⟨p, xs, rfl, hq, hr⟩ := asT_rel ry hT
        obtain ⟨f1, f2, f3⟩ := flat (.inr hq) hr hm
        exact .inr (.inl ⟨p, xs, rfl, .inr hq, f1, f2, f3⟩)
      · cases y with
        | d z =>
          obtain ⟨hm, h⟩ := some_if h
          cases h
          rw [Bool.and_eq_true] at hm
          refine .inr (.inr (.inr ⟨d, ds, asD_dp hs rx hd, ?_, hm.1, hm.2, rfl⟩))
          cases z with
          | tuple xs => cases hT; exact Rep.dp ry
          | _ => cases hT
        | _ => cases h
    · obtain ⟨ds, hL, h⟩ := Option.bind_eq_some_iff.mp h
      split at h
      · rename_i hm
        cases h
        obtain ⟨p, xs, rfl, hq, hr⟩ := asL_rel hs ry hL
        obtain ⟨f1, f2, f3⟩ := flat (.inl hq) hr hm
        exact .inr (.inl ⟨p, xs, rfl, .inl hq, f1, f2, f3⟩)
      · cases y with
        | d z =>
          obtain ⟨hm, h⟩ := some_if h
          cases h
          rw [Bool.and_eq_true] at hm
          refine .inr (.inr (.inl ⟨d, ds, asD_dp hs rx hd, ?_, hm.1, hm.2, rfl⟩))
          cases z with
          | list xs => cases hL; exact Rep.dp ry
          | _ => cases hL
        | loc i =>
          obtain ⟨hm, h⟩ := some_if h
          cases h
          rw [Bool.and_eq_true] at hm
          refine .inr (.inr (.inl ⟨d, ds, asD_dp hs rx hd, asD_dp (w := .loc i) hs ry ?_, hm.1, hm.2, rfl⟩))
          simp only [asL] at hL
          simp only [asD]
          split at hL
          · rename_i xs e
            cases hL
            first | rw [e] | rfl
          · cases hL
        | _ => cases h
def rInT (K : PySem.W.Frag) : R2 := fun x y H Q => ∃ d ds, Dp K H x d ∧ Dp K H y (.tuple ds) ∧ SeqAt.shaped d = true ∧ SeqAt.shaped (.tuple ds) = true ∧ Q (.bl (ds.any fun z => PyData.eqv z d)) H
def rNotInT (K : PySem.W.Frag) : R2 := fun x y H Q => ∃ d ds, Dp K H x d ∧ Dp K H y (.tuple ds) ∧ SeqAt.shaped d = true ∧ SeqAt.shaped (.tuple ds) = true ∧ Q (.bl (!ds.any fun z => PyData.eqv z d)) H
theorem op_inT (hu : X.A.units + 65 < cLine) : OpR X (compareOp .In) (rInT X.K) := by
  intro pins s σ H x y v u Q I rx ry h
  obtain ⟨d, ds, hd, he, sd, se, q⟩ := h
  obtain ⟨as, r1⟩ := Dp.reads I d x v hd rx
  obtain ⟨bs, r2⟩ := Dp.reads I (.tuple ds) y u he ry
  exact SeqAt.in_tuple_reads r2 r1 (SeqAt.canLay_of_shaped se) (SeqAt.canLay_of_shaped sd) (room_in_shaped sd hu) ⟨.bl _, H, I, rfl, q⟩
theorem op_notInT (hu : X.A.units + 65 < cLine) : OpR X (compareOp .NotIn) (rNotInT X.K) := by
  intro pins s σ H x y v u Q I rx ry h
  obtain ⟨d, ds, hd, he, sd, se, q⟩ := h
  obtain ⟨as, r1⟩ := Dp.reads I d x v hd rx
  obtain ⟨bs, r2⟩ := Dp.reads I (.tuple ds) y u he ry
  exact SeqAt.notIn_tuple_reads r2 r1 (SeqAt.canLay_of_shaped se) (SeqAt.canLay_of_shaped sd) (room_in_shaped sd hu) ⟨.bl _, H, I, rfl, q⟩
theorem o_in (hu : X.A.units + 65 < cLine) : OpD X (compareOp .In) vIn := by
  rintro pins s σ H v u v' u' Q I r1 r2 ⟨ρ, S, x, y, w, hs, rx, ry, hg, q⟩
  unfold vIn at hg
  rw [Option.map_eq_some_iff] at hg
  obtain ⟨b, hb, rfl⟩ := hg
  have qq := q ρ (.bl b) H .refl hs (.bl _)
  rcases vHas_cases hs rx ry hb with ⟨a, ov, rfl, g, rfl⟩ | ⟨p, xs, rfl, hq, f1, f2, rfl⟩ | ⟨d, ds, h1, h2, h3, h4, rfl⟩ | ⟨d, ds, h1, h2, h3, h4, rfl⟩
  · obtain rfl : u' = Value.ref a := r2
    exact d_in (by omega) I g r1 fun s2 I2 => ⟨.bl ov.isSome, H, I2, rfl, qq⟩
  · exact op_in_seq pins s σ H _ _ _ _ Q I r1 r2 ⟨p, xs, rfl, hq, f1, f2, qq⟩
  · exact op_inD hu pins s σ H _ _ _ _ Q I r1 r2 ⟨d, ds, h1, h2, h3, h4, qq⟩
  · exact op_inT hu pins s σ H _ _ _ _ Q I r1 r2 ⟨d, ds, h1, h2, h3, h4, qq⟩
theorem o_notIn (hu : X.A.units + 65 < cLine) : OpD X (compareOp .NotIn) vNotIn := by
  rintro pins s σ H v u v' u' Q I r1 r2 ⟨ρ, S, x, y, w, hs, rx, ry, hg, q⟩
  unfold vNotIn at hg
  rw [Option.map_eq_some_iff] at hg
  obtain ⟨b, hb, rfl⟩ := hg
  have qq := q ρ (.bl (!b)) H .refl hs (.bl _)
  rcases vHas_cases hs rx ry hb with ⟨a, ov, rfl, g, rfl⟩ | ⟨p, xs, rfl, hq, f1, f2, rfl⟩ | ⟨d, ds, h1, h2, h3, h4, rfl⟩ | ⟨d, ds, h1, h2, h3, h4, rfl⟩
  · obtain rfl : u' = Value.ref a := r2
    exact d_notIn (by omega) I g r1 fun s2 I2 => ⟨.bl (!ov.isSome), H, I2, rfl, qq⟩
  · exact op_notIn_seq pins s σ H _ _ _ _ Q I r1 r2 ⟨p, xs, rfl, hq, f1, f2, qq⟩
  · exact op_notInD hu pins s σ H _ _ _ _ Q I r1 r2 ⟨d, ds, h1, h2, h3, h4, qq⟩
  · exact op_notInT hu pins s σ H _ _ _ _ Q I r1 r2 ⟨d, ds, h1, h2, h3, h4, qq⟩
/-- o[i] = v, a list's or a dict's -/
def vSetI : GS := fun S o i v => match o, i, v with
  | .loc n, .d i, .d v => match S[n]? with
    | some (.lst xs) => match i with
      | .int k => (ixN xs.length k).map fun j => S.set n (.lst (xs.set j v))
      | _ => none
    | some (.dK kvs) => (keyD i).bind fun k => if fits (kvs.length + 1) = true then some (S.set n (.dK (putD kvs k v))) else none
    | some (.dT kvs) => (keyT i).bind fun k => if fits (kvs.length + 1) = true then some (S.set n (.dT (putD kvs k v))) else none
    | _ => none
  | _, _, _ => none
theorem RepL.upd {ρ : Rho} {H : Hp} {a : Addr} {o : HO} {ds : List D} {vs : List V} (h : some a ∈ ρ.l) (r : RepL ρ H ds vs) : RepL ρ (L2.upd H a o) ds vs := r.ext (Ext.write h)
theorem s_setI (hu : X.A.units + 1 < cLine) : SetD X vSetI := by
  rintro pins s σ H o i v ov iv uv Q I ro ri rv ⟨ρ, S, x, y, z, S', hs, rx, ry, rz, hg, q⟩
  unfold vSetI at hg
  split at hg
  · rename_i n i' v'
    split at hg
    · rename_i xs e
      split at hg
      · rename_i k
        rw [Option.map_eq_some_iff] at hg
        obtain ⟨j, hj, rfl⟩ := hg
        obtain ⟨a, vs, rfl, hl, h2, h3⟩ := hs.lst_at rx e
        cases ry
        have hm := List.mem_of_getElem? hl
        refine set_list pins s σ H _ _ _ _ _ _ Q I ro ri rv ⟨a, vs, k, j, rfl, rfl, h2, by rw [← h3.length]; exact hj, ?_⟩
        exact q ρ _ (Ext.write hm) (hs.write hl ⟨_, upd_same, (h3.set j rz).ext (Ext.write hm)⟩)
      · cases hg
    · rename_i kvs e
      obtain ⟨k, hk, hg⟩ := Option.bind_eq_some_iff.mp hg
      obtain ⟨hf, hg⟩ := some_if hg
      cases hg
      obtain ⟨a, rfl, hl, us, h2, h3⟩ := dict_at hs rx e (by intro z; cases z)
      obtain rfl : ov = Value.ref a := ro
      have := keyD_rel ry hk
      subst this
      have hm := List.mem_of_getElem? hl
      refine d_setItem hu I (DPut.k (v := v) h2 (by rw [← h3.length]; exact fits_lt hf)) ri rv fun s2 I2 => ⟨_, I2, q ρ _ (Ext.write hm) (hs.write hl ⟨_, upd_same, (h3.put k rz).ext (Ext.write hm)⟩)⟩
    · rename_i kvs e
      obtain ⟨k, hk, hg⟩ := Option.bind_eq_some_iff.mp hg
      obtain ⟨hf, hg⟩ := some_if hg
      cases hg
      obtain ⟨a, rfl, hl, us, h2, h3⟩ := dict_at hs rx e (by intro z; cases z)
      obtain rfl : ov = Value.ref a := ro
      obtain ⟨b, rfl, hb⟩ := keyT_rel ry hk
      have hm := List.mem_of_getElem? hl
      refine d_setItem hu I (DPut.t (v := v) h2 hb (by rw [← h3.length]; exact fits_lt hf)) ri rv fun s2 I2 => ⟨_, I2, q ρ _ (Ext.write hm) (hs.write hl ⟨_, upd_same, (h3.put k rz).ext (Ext.write hm)⟩)⟩
    · cases hg
  · cases hg

/-! subscripts, slices -/
def vIx : G2 := fun S x y => match y with
  | .d (.int i) => match asT x with
    | some ds => (atI ds i).map W.d
    | none => match asL S x with
      | some ds => (atI ds i).map W.d
      | none => match x with
        | .d (.str z) => if fits z.length = true then (atI z.cps.toList i).map fun c => .d (.str ⟨#[c]⟩) else none
        | _ => none
  | _ => none
theorem atI_rel {ρ : Rho} {H : Hp} {ds : List D} {vs : List V} {i : Int} {d : D} (r : RepL ρ H ds vs) (h : atI ds i = some d) : ∃ v, atI vs i = some v ∧ Rep ρ H d v := by
  unfold atI at h ⊢
  rw [← r.length]
  obtain ⟨j, h1, h2⟩ := Option.bind_eq_some_iff.mp h
  obtain ⟨v, h3, h4⟩ := r.get h2
  exact ⟨v, by rw [h1]; exact h3, h4⟩
theorem i_ix : IxD X vIx := by
  rintro value slice pins s σ H v u v' u' Q I r1 r2 ⟨ρ, S, x, y, w, hs, rx, ry, hg, q⟩ hsub
  unfold vIx at hg
  split at hg
  · rename_i i
    cases ry
    split at hg
    · rename_i ds hT
      rw [Option.map_eq_some_iff] at hg
      obtain ⟨d, hd, rfl⟩ := hg
      obtain ⟨a, vs, rfl, hq, hr⟩ := asT_rel rx hT
      obtain ⟨z, h1, h2⟩ := atI_rel hr hd
      exact ix_tup value slice pins s σ H _ _ _ _ Q I r1 r2 ⟨a, vs, i, z, rfl, rfl, hq, h1, q ρ z H .refl hs h2⟩ hsub
    · split at hg
      · rename_i ds hL
        rw [Option.map_eq_some_iff] at hg
        obtain ⟨d, hd, rfl⟩ := hg
        obtain ⟨a, vs, rfl, hq, hr⟩ := asL_rel hs rx hL
        obtain ⟨z, h1, h2⟩ := atI_rel hr hd
        exact ix_list value slice pins s σ H _ _ _ _ Q I r1 r2 ⟨a, vs, i, z, rfl, rfl, hq, h1, q ρ z H .refl hs h2⟩ hsub
      · split at hg
        · obtain ⟨hf, hg⟩ : fits _ = true ∧ _ := by
            split at hg
            · rename_i hf; exact ⟨hf, hg⟩
            · cases hg
          rw [Option.map_eq_some_iff] at hg
          obtain ⟨c, hc, rfl⟩ := hg
          cases rx
          exact ix_str value slice pins s σ H _ _ _ _ Q I r1 r2 ⟨_, i, c, rfl, rfl, fits_ok hf, hc, q ρ _ H .refl hs (.str _)⟩ hsub
        · cases hg
  · cases hg
/-- a part of a slice -/
abbrev MP := Env → Sto → Option (Option Int × Sto)
def tDP (K : KW) (m : MP) : TO := fun σ H Q => ∃ ρ σd S o S', SRel K ρ H S ∧ RelE K ρ H σd σ ∧ m σd S = some (o, S') ∧ ∀ ρ' H', Ext ρ H ρ' H' → SRel K ρ' H' S' → Q o H'
abbrev PDP (X : Cx) (e : Option Expr) (m : MP) : Prop := PO X e (tDP (kwOf X) m)
theorem poImp {e : Option Expr} {t t' : TO} (h : PO X e t) (i : ∀ σ H Q, t' σ H Q → t σ H Q) : PO X e t' := ⟨fun pins s σ H Q I q => h.run pins s σ H Q I (i σ H Q q)⟩
@[simp] def mNoP : MP := fun _ S => some (none, S)
@[simp] def mP (m : ME) : MP := fun σ S => (m σ S).bind fun r => match r.1 with
  | .d (.int i) => some (some i, r.2)
  | _ => none
theorem dp_none : PDP X none mNoP := poImp po_none fun σ H Q ⟨ρ, σd, S, o, S', hs, he, hm, q⟩ => by
  cases hm
  exact q ρ H .refl hs
theorem dp_some {e : Expr} {m : ME} (h : PD X e m) : PDP X (some e) (mP m) := poImp (po_some h) fun σ H Q ⟨ρ, σd, S, o, S', hs, he, hm, q⟩ => by
  obtain ⟨⟨w1, S1⟩, h1, hm⟩ := Option.bind_eq_some_iff.mp hm
  refine ⟨ρ, σd, S, w1, S1, hs, he, h1, fun ρ1 v1 H1 e1 s1 r1 => ?_⟩
  dsimp only at hm
  split at hm
  · cases hm
    cases r1
    exact ⟨_, rfl, q ρ1 H1 e1 s1⟩
  · cases hm
def cutD (ds : List D) (lo hi : Option Int) : List D := (ds.drop (HT.sIx ds.length 0 lo)).take (HT.sIx ds.length ds.length hi - HT.sIx ds.length 0 lo)
theorem cutD_rel {ρ : Rho} {H : Hp} {ds : List D} {vs : List V} (r : RepL ρ H ds vs) (lo hi : Option Int) : RepL ρ H (cutD ds lo hi) (cutV vs lo hi) := by
  unfold cutD cutV
  rw [r.length]
  exact (r.drop _).take _
def vCut (S : Sto) (x : W) (lo hi : Option Int) : Option W := match x with
  | .d (.tuple ds) => some (.d (.tuple (cutD ds lo hi)))
  | _ => (asL S x).map fun ds => .d (.list (cutD ds lo hi))
@[simp] def mCut (o : ME) (l h : MP) : ME := fun σ S => (o σ S).bind fun r => (l σ r.2).bind fun p => (h σ p.2).bind fun q => (vCut q.2 r.1 p.1 q.1).map fun w => (w, q.2)
theorem cut_whole {ds : List D} {lo hi : Option Int} (h : HT.sIx ds.length 0 lo = 0 ∧ HT.sIx ds.length ds.length hi = ds.length) : cutD ds lo hi = ds := by
  unfold cutD
  rw [h.1, h.2]
  simp
/-- slices by values -/
def rCut (K : KW) : V → Option Int → Option Int → Hp → VK → Prop := fun v lo hi H Q => ∃ ρ S x w, SRel K ρ H S ∧ RelW K ρ H x v ∧ vCut S x lo hi = some w ∧ ∀ ρ' z H', Ext ρ H ρ' H' → SRel K ρ' H' S → RelW K ρ' H' w z → Q z H'
theorem sl_cut : SlR X (rCut (kwOf X)) := by
  rintro pins s σ H x v vl vu lo hi sl Q I rx hsl pl pu ⟨ρ, S, w0, w, hs, r, hc, q⟩
  unfold vCut at hc
  split at hc
  · cases hc
    obtain ⟨a, vs, rfl, h1, h2, h3⟩ := rep_tup r
    refine sl_tupA pins s σ H _ v vl vu lo hi sl Q I rx hsl pl pu ⟨a, vs, rfl, SqT.of h1, fun hw => ?_, fun hw p hp => ?_⟩
    · rw [← h3.length] at hw
      have q' := q ρ (.ref a) H .refl hs
      rw [cut_whole hw] at q'
      exact q' (.tup h1 h2 h3)
    · exact q ρ _ _ (Ext.new hp) (hs.new hp) (.tup upd_same (hs.fresh hp) ((cutD_rel h3 lo hi).ext (Ext.new hp)))
  · rw [Option.map_eq_some_iff] at hc
    obtain ⟨ds, hL, rfl⟩ := hc
    obtain ⟨a, vs, rfl, hq, hr⟩ := asL_rel hs r hL
    refine sl_list pins s σ H _ v vl vu lo hi sl Q I rx hsl pl pu ⟨a, vs, rfl, hq, fun p hp => ?_⟩
    exact q ρ _ _ (Ext.new hp) (hs.new hp) (.lst upd_same (hs.fresh hp) ((cutD_rel hr lo hi).ext (Ext.new hp)))
theorem d_cut {e : Expr} {lo hi : Option Expr} {p2 pos : Pos} {m : ME} {ml mh : MP} (he : PD X e m) (hl : PDP X lo ml) (hh : PDP X hi mh) : PD X (.Subscript e (.Slice lo hi none p2) pos) (mCut m ml mh) :=
  peImp (pe_slice sl_cut he hl hh) fun σ H Q ⟨ρ, σd, S, w, S', hs, hE, hm, q⟩ => by
    obtain ⟨⟨w1, S1⟩, h1, hm⟩ := Option.bind_eq_some_iff.mp hm
    obtain ⟨⟨p1, S2⟩, h2, hm⟩ := Option.bind_eq_some_iff.mp hm
    obtain ⟨⟨p2, S3⟩, h3, hm⟩ := Option.bind_eq_some_iff.mp hm
    rw [Option.map_eq_some_iff] at hm
    obtain ⟨w', h4, h5⟩ := hm
    cases h5
    refine ⟨ρ, σd, S, w1, S1, hs, hE, h1, fun ρ1 v1 H1 e1 s1 r1 => ⟨ρ1, σd, S1, p1, S2, s1, hE.ext e1, h2, fun ρ2 H2 e2 s2 => ⟨ρ2, σd, S2, p2, S3, s2, hE.ext (e1.trans e2), h3, fun ρ3 H3 e3 s3 => ?_⟩⟩⟩
    exact ⟨ρ3, S3, w1, w, s3, r1.ext (e2.trans e3), h4, fun ρ4 z H4 e4 s4 r4 => q ρ4 z H4 (((e1.trans e2).trans e3).trans e4) s4 r4⟩
/-- xs[::-1] of a list -/
@[simp] def mRev (o : ME) : ME := fun σ S => (o σ S).bind fun r => (asL r.2 r.1).map fun ds => (.d (.list ds.reverse), r.2)
theorem d_rev {e : Expr} {k : Nat} {p1 p2 p3 pos : Pos} {m : ME} (he : PD X e m) : PD X (.Subscript e (.Slice none none (some (.UnaryOp .USub (.Constant (.int 1) k p1) p2)) p3) pos) (mRev m) :=
  peImp (pe_revL he) fun σ H Q ⟨ρ, σd, S, w, S', hs, hE, hm, q⟩ => by
    obtain ⟨⟨w1, S1⟩, h1, hm⟩ := Option.bind_eq_some_iff.mp hm
    rw [Option.map_eq_some_iff] at hm
    obtain ⟨ds, h2, h3⟩ := hm
    cases h3
    refine ⟨ρ, σd, S, w1, S1, hs, hE, h1, fun ρ1 v1 H1 e1 s1 r1 => ?_⟩
    obtain ⟨a, vs, rfl, hq, hr⟩ := asL_rel s1 r1 h2
    exact ⟨a, vs, rfl, hq, fun p hp => q ρ1 _ _ (e1.trans (Ext.new hp)) (s1.new hp) (.lst upd_same (s1.fresh hp) (hr.reverse.ext (Ext.new hp)))⟩
end
end DL

set_option Elab.async false
set_option linter.all false
set_option maxRecDepth 100000
set_option autoImplicit false
/-! The data layer, 7: functions, types and methods that are built in. -/
noncomputable section
namespace DL
open PySem PySem.Spec PyProof.Rows L2

section
variable {X : Cx}
@[simp] def pure1 (g : Sto → W → Option W) : GC := fun S ws => match ws with
  | [w] => (g S w).map fun u => (u, S)
  | _ => none
/-- one argument, nothing changed -/
theorem call1_of {f : Value} {g : Sto → W → Option W} (h : ∀ (pins : List (Addr × Obj)) (s : Shared) (σ : L2.St) (H : Hp) (v : V) (u : Value) (Q : VK) (ρ : Rho) (S : Sto) (x w : W), Inv X pins σ H s → RelV v u → SRel (kwOf X) ρ H S → RelW (kwOf X) ρ H x v → g S x = some w →
    (∀ ρ' z H', Ext ρ H ρ' H' → SRel (kwOf X) ρ' H' S → RelW (kwOf X) ρ' H' w z → Q z H') → wpAny (model X.prog X.w) X.A (call f [u]) (EP X pins σ Q) X.xe s) : CallD X f (pure1 g) := by
  rintro pins s σ H vs us Q I r ⟨ρ, S, ws, w, S', hs, rx, hg, q⟩
  unfold pure1 at hg
  split at hg
  · rename_i x
    rw [Option.map_eq_some_iff] at hg
    obtain ⟨w', h1, h2⟩ := hg
    cases h2
    obtain ⟨v, rfl, rv⟩ := rx.one
    obtain ⟨u, rfl, ru⟩ := vals1 r
    exact h pins s σ H v u Q ρ _ x w I ru hs rv h1 q
  · cases hg
/-- from a rule by values -/
theorem call1_by {f : Value} {r : List V → Hp → VK → Prop} {g : Sto → W → Option W} (hr : CallR X f r) (h : ∀ (H : Hp) (v : V) (Q : VK) (ρ : Rho) (S : Sto) (x w : W), SRel (kwOf X) ρ H S → RelW (kwOf X) ρ H x v → g S x = some w →
    (∀ ρ' z H', Ext ρ H ρ' H' → SRel (kwOf X) ρ' H' S → RelW (kwOf X) ρ' H' w z → Q z H') → r [v] H Q) : CallD X f (pure1 g) := by
  rintro pins s σ H vs us Q I rv ⟨ρ, S, ws, w, S', hs, rx, hg, q⟩
  unfold pure1 at hg
  split at hg
  · rename_i x
    rw [Option.map_eq_some_iff] at hg
    obtain ⟨w', h1, h2⟩ := hg
    cases h2
    obtain ⟨v, rfl, rv'⟩ := rx.one
    exact hr pins s σ H _ us Q I rv (h H v Q ρ _ x w hs rv' h1 q)
  · cases hg
@[simp] def pure2 (g : Sto → W → W → Option W) : GC := fun S ws => match ws with
  | [w, u] => (g S w u).map fun u => (u, S)
  | _ => none
theorem call2_by {f : Value} {r : List V → Hp → VK → Prop} {g : Sto → W → W → Option W} (hr : CallR X f r) (h : ∀ (H : Hp) (v u : V) (Q : VK) (ρ : Rho) (S : Sto) (x y w : W), SRel (kwOf X) ρ H S → RelW (kwOf X) ρ H x v → RelW (kwOf X) ρ H y u → g S x y = some w →
    (∀ ρ' z H', Ext ρ H ρ' H' → SRel (kwOf X) ρ' H' S → RelW (kwOf X) ρ' H' w z → Q z H') → r [v, u] H Q) : CallD X f (pure2 g) := by
  rintro pins s σ H vs us Q I rv ⟨ρ, S, ws, w, S', hs, rx, hg, q⟩
  unfold pure2 at hg
  split at hg
  · rename_i x y
    rw [Option.map_eq_some_iff] at hg
    obtain ⟨w', h1, h2⟩ := hg
    cases h2
    obtain ⟨v, u, rfl, rv', ru⟩ := rx.two
    exact hr pins s σ H _ us Q I rv (h H v u Q ρ _ x y w hs rv' ru h1 q)
  · cases hg

/-! len, abs, int, min, max -/
def seqOf (S : Sto) (x : W) : Option (List D) := match asT x with
  | some ds => some ds
  | none => asL S x
theorem seqOf_rel {K : KW} {ρ : Rho} {H : Hp} {S : Sto} (s : SRel K ρ H S) {w : W} {v : V} {ds : List D} (r : RelW K ρ H w v) (h : seqOf S w = some ds) : ∃ a vs, v = .ref a ∧ (SqL K.k H a vs ∨ SqT K.k H a vs) ∧ RepL ρ H ds vs := by
  unfold seqOf at h
  split at h
  · rename_i hT
    cases h
    obtain ⟨a, vs, e, h1, h2⟩ := asT_rel r hT
    exact ⟨a, vs, e, .inr h1, h2⟩
  · obtain ⟨a, vs, e, h1, h2⟩ := asL_rel s r h
    exact ⟨a, vs, e, .inl h1, h2⟩
def vLen (S : Sto) (x : W) : Option W := match x with
  | .d (.str z) => if fits z.length = true then some (.d (.int z.length)) else none
  | _ => (seqOf S x).map fun ds => .d (.int ds.length)
theorem c_len : CallD X (.builtin "len") (pure1 vLen) := call1_by call_len fun H v Q ρ S x w hs rx hg q => by
  unfold vLen at hg
  split at hg
  · obtain ⟨hf, hg⟩ := some_if hg
    cases hg
    cases rx
    exact ⟨_, _, rfl, ⟨fits_ok hf, rfl⟩, q ρ _ H .refl hs (.int _)⟩
  · rw [Option.map_eq_some_iff] at hg
    obtain ⟨ds, h1, rfl⟩ := hg
    obtain ⟨a, vs, rfl, h2, h3⟩ := seqOf_rel hs rx h1
    refine ⟨.ref a, ds.length, rfl, ?_, q ρ _ H .refl hs (.int _)⟩
    rcases h2 with h2 | h2
    · exact .inl ⟨vs, h2, h3.length⟩
    · exact .inr ⟨vs, h2, h3.length⟩
@[simp] def vInt1 (f : Int → Int) (S : Sto) (x : W) : Option W := match x with
  | .d (.int i) => some (.d (.int (f i)))
  | _ => none
def absI (i : Int) : Int := if i < 0 then -i else i
theorem c_abs : CallD X (.builtin "abs") (pure1 (vInt1 absI)) := call1_by call_abs fun H v Q ρ S x w hs rx hg q => by
  unfold vInt1 at hg
  split at hg
  · cases hg
    cases rx
    exact ⟨_, rfl, q ρ _ H .refl hs (.int _)⟩
  · cases hg
@[simp] def vInt (S : Sto) (x : W) : Option W := match x with
  | .d (.int i) => some (.d (.int i))
  | .d (.bool b) => some (.d (.int (if b then 1 else 0)))
  | _ => none
theorem c_int : CallD X (.type "int") (pure1 vInt) := call1_by call_int1 fun H v Q ρ S x w hs rx hg q => by
  unfold vInt at hg
  split at hg
  · cases hg
    cases rx
    exact .inl ⟨_, rfl, q ρ _ H .refl hs (.int _)⟩
  · cases hg
    cases rx
    exact .inr ⟨_, rfl, q ρ _ H .refl hs (.int _)⟩
  · cases hg
def vInt22 (f : Int → Int → Int) (S : Sto) (x y : W) : Option W := match x, y with
  | .d (.int i), .d (.int j) => some (.d (.int (f i j)))
  | _, _ => none
def maxI (i j : Int) : Int := if j > i then j else i
def minI (i j : Int) : Int := if j < i then j else i
theorem c_max2 (hc : X.calm = true) : CallD X (.builtin "max") (pure2 (vInt22 maxI)) := call2_by (call_max2 hc) fun H v u Q ρ S x y w hs rx ry hg q => by
  unfold vInt22 at hg
  split at hg
  · cases hg
    cases rx; cases ry
    exact ⟨_, _, rfl, q ρ _ H .refl hs (.int _)⟩
  · cases hg
theorem c_min2 (hc : X.calm = true) : CallD X (.builtin "min") (pure2 (vInt22 minI)) := call2_by (call_min2 hc) fun H v u Q ρ S x y w hs rx ry hg q => by
  unfold vInt22 at hg
  split at hg
  · cases hg
    cases rx; cases ry
    exact ⟨_, _, rfl, q ρ _ H .refl hs (.int _)⟩
  · cases hg
/-! lists of numbers, of truth values -/
def intsOf : List D → Option (List Int)
  | [] => some []
  | .int i :: ds => (intsOf ds).map fun ns => i :: ns
  | _ :: _ => none
theorem intsOf_eq : ∀ {ds : List D} {ns : List Int}, intsOf ds = some ns → ds = ns.map PyData.int
  | [], _, h => by cases h; rfl
  | .int i :: ds, _, h => by
    simp only [intsOf, Option.map_eq_some_iff] at h
    obtain ⟨ns, h1, rfl⟩ := h
    rw [intsOf_eq h1]; rfl
  | .none :: _, _, h => by cases h
  | .bool _ :: _, _, h => by cases h
  | .str _ :: _, _, h => by cases h
  | .list _ :: _, _, h => by cases h
  | .tuple _ :: _, _, h => by cases h
  | .dict _ :: _, _, h => by cases h
@[simp] theorem intsOf_map (ns : List Int) : intsOf (ns.map PyData.int) = some ns := by
  induction ns with
  | nil => rfl
  | cons n ns ih => simp [intsOf, ih]
def boolsOf : List D → Option (List Bool)
  | [] => some []
  | .bool i :: ds => (boolsOf ds).map fun ns => i :: ns
  | _ :: _ => none
theorem boolsOf_eq : ∀ {ds : List D} {ns : List Bool}, boolsOf ds = some ns → ds = ns.map PyData.bool
  | [], _, h => by cases h; rfl
  | .bool i :: ds, _, h => by
    simp only [boolsOf, Option.map_eq_some_iff] at h
    obtain ⟨ns, h1, rfl⟩ := h
    rw [boolsOf_eq h1]; rfl
  | .none :: _, _, h => by cases h
  | .int _ :: _, _, h => by cases h
  | .str _ :: _, _, h => by cases h
  | .list _ :: _, _, h => by cases h
  | .tuple _ :: _, _, h => by cases h
  | .dict _ :: _, _, h => by cases h
@[simp] theorem boolsOf_map (ns : List Bool) : boolsOf (ns.map PyData.bool) = some ns := by
  induction ns with
  | nil => rfl
  | cons n ns ih => simp [boolsOf, ih]
def vSum (S : Sto) (x : W) : Option W := (seqOf S x).bind fun ds => (intsOf ds).map fun ns => .d (.int ns.sum)
theorem c_sum (hc : X.calm = true) : CallD X (.builtin "sum") (pure1 vSum) := call1_of fun pins s σ H v u Q ρ S x w I r hs rx hg q => by
  obtain ⟨ds, h1, hg⟩ := Option.bind_eq_some_iff.mp hg
  rw [Option.map_eq_some_iff] at hg
  obtain ⟨ns, h2, rfl⟩ := hg
  have := intsOf_eq h2
  subst this
  obtain ⟨a, vs, rfl, h3, h4⟩ := seqOf_rel hs rx h1
  have := h4.ints
  subst this
  have qq := q ρ (.int ns.sum) H .refl hs (.int _)
  rcases h3 with h3 | h3
  · exact cr_sum hc pins s σ H [.ref a] [u] Q I (.cons r .nil) ⟨a, ns, rfl, h3, qq⟩
  · obtain rfl : u = Value.ref a := r
    obtain ⟨its, rv, ht, _⟩ := I.tuple h3
    have hi := rv.ints
    obtain ⟨xs, e⟩ := hi.allInts.items
    have hn : numsOf (intItems xs).toList = ns := by rw [← e]; exact hi.numsOf
    rw [nums_intItems] at hn
    rw [e] at ht
    refine PySem.W.ktm_sumG (I.ok.hd hc) (show s.heap.IsTuple a (intItems xs) from ht) fun h' tk t' hk => ?_
    rw [preSum_eq, List.take_of_length_le (by simp), hn]
    exact ⟨.int ns.sum, H, I.kept hk, ⟨_, rfl⟩, qq⟩
def vAll (S : Sto) (x : W) : Option W := (asL S x).bind fun ds => (boolsOf ds).map fun bs => .d (.bool (bs.all id))
def vAny (S : Sto) (x : W) : Option W := (asL S x).bind fun ds => (boolsOf ds).map fun bs => .d (.bool (bs.any id))
theorem c_all (hc : X.calm = true) : CallD X (.builtin "all") (pure1 vAll) := call1_by (cr_all hc) fun H v Q ρ S x w hs rx hg q => by
  obtain ⟨ds, h1, hg⟩ := Option.bind_eq_some_iff.mp hg
  rw [Option.map_eq_some_iff] at hg
  obtain ⟨bs, h2, rfl⟩ := hg
  have := boolsOf_eq h2
  subst this
  obtain ⟨a, vs, rfl, h3, h4⟩ := asL_rel hs rx h1
  have := h4.bools
  subst this
  exact ⟨a, bs, rfl, h3, q ρ _ H .refl hs (.bl _)⟩
theorem c_any (hc : X.calm = true) : CallD X (.builtin "any") (pure1 vAny) := call1_by (cr_any hc) fun H v Q ρ S x w hs rx hg q => by
  obtain ⟨ds, h1, hg⟩ := Option.bind_eq_some_iff.mp hg
  rw [Option.map_eq_some_iff] at hg
  obtain ⟨bs, h2, rfl⟩ := hg
  have := boolsOf_eq h2
  subst this
  obtain ⟨a, vs, rfl, h3, h4⟩ := asL_rel hs rx h1
  have := h4.bools
  subst this
  exact ⟨a, bs, rfl, h3, q ρ _ H .refl hs (.bl _)⟩
/-- the greatest, the least of a list of numbers -/
def maxL : Int → List Int → Int
  | m, [] => m
  | m, x :: xs => maxL (if x > m then x else m) xs
def minL : Int → List Int → Int
  | m, [] => m
  | m, x :: xs => minL (if x < m then x else m) xs
theorem maxL_spec : ∀ (xs : List Int) (m : Int), (maxL m xs = m ∨ maxL m xs ∈ xs) ∧ m ≤ maxL m xs ∧ ∀ y ∈ xs, y ≤ maxL m xs
  | [], m => ⟨.inl rfl, Int.le_refl _, fun y h => by cases h⟩
  | x :: xs, m => by
    have ih := maxL_spec xs (if x > m then x else m)
    unfold maxL
    by_cases h : x > m
    · rw [if_pos h] at ih ⊢
      refine ⟨.inr (ih.1.elim (fun e => by rw [e]; exact List.mem_cons_self) (fun e => List.mem_cons_of_mem _ e)), by omega, fun y hy => ?_⟩
      rcases List.mem_cons.mp hy with rfl | hy
      · exact ih.2.1
      · exact ih.2.2 y hy
    · rw [if_neg h] at ih ⊢
      refine ⟨ih.1.elim .inl (fun e => .inr (List.mem_cons_of_mem _ e)), ih.2.1, fun y hy => ?_⟩
      rcases List.mem_cons.mp hy with rfl | hy
      · omega
      · exact ih.2.2 y hy
theorem minL_spec : ∀ (xs : List Int) (m : Int), (minL m xs = m ∨ minL m xs ∈ xs) ∧ minL m xs ≤ m ∧ ∀ y ∈ xs, minL m xs ≤ y
  | [], m => ⟨.inl rfl, Int.le_refl _, fun y h => by cases h⟩
  | x :: xs, m => by
    have ih := minL_spec xs (if x < m then x else m)
    unfold minL
    by_cases h : x < m
    · rw [if_pos h] at ih ⊢
      refine ⟨.inr (ih.1.elim (fun e => by rw [e]; exact List.mem_cons_self) (fun e => List.mem_cons_of_mem _ e)), by omega, fun y hy => ?_⟩
      rcases List.mem_cons.mp hy with rfl | hy
      · exact ih.2.1
      · exact ih.2.2 y hy
    · rw [if_neg h] at ih ⊢
      refine ⟨ih.1.elim .inl (fun e => .inr (List.mem_cons_of_mem _ e)), ih.2.1, fun y hy => ?_⟩
      rcases List.mem_cons.mp hy with rfl | hy
      · omega
      · exact ih.2.2 y hy
def vMaxL (S : Sto) (x : W) : Option W := (asL S x).bind fun ds => (intsOf ds).bind fun ns => match ns with
  | [] => none
  | m :: ms => some (.d (.int (maxL m ms)))
def vMinL (S : Sto) (x : W) : Option W := (asL S x).bind fun ds => (intsOf ds).bind fun ns => match ns with
  | [] => none
  | m :: ms => some (.d (.int (minL m ms)))
theorem c_maxL (hc : X.calm = true) : CallD X (.builtin "max") (pure1 vMaxL) := call1_by (cr_max hc) fun H v Q ρ S x w hs rx hg0 q => by
  obtain ⟨ds, h1, hg⟩ := Option.bind_eq_some_iff.mp hg0
  clear hg0
  obtain ⟨ns, h2, hg2⟩ := Option.bind_eq_some_iff.mp hg
  clear hg
  have := intsOf_eq h2
  subst this
  obtain ⟨a, vs, rfl, h3, h4⟩ := asL_rel hs rx h1
  have := h4.ints
  subst this
  cases ns with
  | nil => cases hg2
  | cons m ms =>
    cases hg2
    refine ⟨a, m :: ms, rfl, h3, by simp, fun z hz hle => ?_⟩
    obtain ⟨s1, s2, s3⟩ := maxL_spec ms m
    have e : z = maxL m ms := by
      have a1 : maxL m ms ≤ z := s1.elim (fun e => by rw [e]; exact hle m List.mem_cons_self) fun e => hle _ (List.mem_cons_of_mem _ e)
      have a2 : z ≤ maxL m ms := by
        rcases List.mem_cons.mp hz with rfl | hz
        · exact s2
        · exact s3 z hz
      omega
    rw [e]
    exact q ρ _ H .refl hs (.int _)
theorem c_minL (hc : X.calm = true) : CallD X (.builtin "min") (pure1 vMinL) := call1_by (cr_min hc) fun H v Q ρ S x w hs rx hg0 q => by
  obtain ⟨ds, h1, hg⟩ := Option.bind_eq_some_iff.mp hg0
  clear hg0
  obtain ⟨ns, h2, hg2⟩ := Option.bind_eq_some_iff.mp hg
  clear hg
  have := intsOf_eq h2
  subst this
  obtain ⟨a, vs, rfl, h3, h4⟩ := asL_rel hs rx h1
  have := h4.ints
  subst this
  cases ns with
  | nil => cases hg2
  | cons m ms =>
    cases hg2
    refine ⟨a, m :: ms, rfl, h3, by simp, fun z hz hle => ?_⟩
    obtain ⟨s1, s2, s3⟩ := minL_spec ms m
    have e : z = minL m ms := by
      have a1 : z ≤ minL m ms := s1.elim (fun e => by rw [e]; exact hle m List.mem_cons_self) fun e => hle _ (List.mem_cons_of_mem _ e)
      have a2 : minL m ms ≤ z := by
        rcases List.mem_cons.mp hz with rfl | hz
        · exact s2
        · exact s3 z hz
      omega
    rw [e]
    exact q ρ _ H .refl hs (.int _)

/-! kinds -/
def tyName : W → Option String
  | .d .none => some "NoneType"
  | .d (.bool _) => some "bool"
  | .d (.int _) => some "int"
  | .d (.str _) => some "str"
  | .d (.list _) => some "list"
  | .d (.tuple _) => some "tuple"
  | _ => none
theorem tyName_rel {K : KW} {ρ : Rho} {H : Hp} {x : W} {v : V} {T : String} (h : tyName x = some T) (r : RelW K ρ H x v) : TyX K.k H v (.type T) := by
  cases x with
  | d z =>
    cases z with
    | none => cases h; cases r; exact .base .non
    | bool b => cases h; cases r; exact .base (.bl b)
    | int b => cases h; cases r; exact .base (.int b)
    | str b => cases h; cases r; exact .base (.str b)
    | list b => cases h; obtain ⟨a, vs, rfl, h1, _⟩ := rep_lst r; exact .base (.lst h1)
    | tuple b => cases h; obtain ⟨a, vs, rfl, h1, _⟩ := rep_tup r; exact .base (.tup h1)
    | dict _ => cases h
  | _ => cases h
def vIsi (S : Sto) (x c : W) : Option W := match c with
  | .v (.ty T) => (tyName x).bind fun n => (kitB n T).map fun b => .d (.bool b)
  | _ => none
theorem c_isi : CallD X (.builtin "isinstance") (pure2 vIsi) := call2_by call_isi fun H v u Q ρ S x y w hs rx ry hg q => by
  unfold vIsi at hg
  split at hg
  · rename_i T
    obtain ⟨n, h1, hg⟩ := Option.bind_eq_some_iff.mp hg
    rw [Option.map_eq_some_iff] at hg
    obtain ⟨b, h2, rfl⟩ := hg
    have e : u = .ty T := ry
    subst e
    exact ⟨v, .ty T, .type n, .type T, b, rfl, .ty T, tyName_rel h1 rx, kit_ty h2, q ρ _ H .refl hs (.bl b)⟩
  · cases hg
theorem d_type {x : Str} {T : String} {pos : Pos} (hg : Gl X x) (hm : X.mg x = none) (hv : bootBuiltins x = some (.type T)) (hn : x ≠ "__name__" := by decide) (hd : (x == ("__debug__" : Str)) = false := by decide) : PD X (.Name x pos) (mC (.v (.ty T))) :=
  d_c (v := .ty T) (pe_bltn hg hm hv rfl hn hd) fun _ _ => rfl

/-! tuple, list -/
def vTuple (S : Sto) (x : W) : Option W := match x with
  | .d (.tuple ds) => some (.d (.tuple ds))
  | .ct ds => some (.ct ds)
  | _ => (asL S x).map fun ds => .d (.tuple ds)
theorem c_tuple : CallD X (.type "tuple") (pure1 vTuple) := call1_by call_tuple_of fun H v Q ρ S x w hs rx hg q => by
  unfold vTuple at hg
  split at hg
  · cases hg
    obtain ⟨a, vs, rfl, h1, h2, h3⟩ := rep_tup rx
    exact ⟨a, vs, rfl, .inr ⟨SqT.of h1, q ρ _ H .refl hs (.tup h1 h2 h3)⟩⟩
  · cases hg
    obtain ⟨a, vs, rfl, h1, h2⟩ := id rx
    exact ⟨a, vs, rfl, .inr ⟨h1 H, q ρ _ H .refl hs rx⟩⟩
  · rw [Option.map_eq_some_iff] at hg
    obtain ⟨ds, h1, rfl⟩ := hg
    obtain ⟨a, vs, rfl, h2, h3⟩ := asL_rel hs rx h1
    exact ⟨a, vs, rfl, .inl ⟨h2, fun p hp => q ρ _ _ (Ext.new hp) (hs.new hp) (.tup upd_same (hs.fresh hp) (h3.ext (Ext.new hp)))⟩⟩
def vList (S : Sto) (x : W) : Option W := (seqOf S x).map fun ds => .d (.list ds)
theorem c_list : CallD X (.type "list") (pure1 vList) := call1_by call_list_of fun H v Q ρ S x w hs rx hg q => by
  unfold vList at hg
  rw [Option.map_eq_some_iff] at hg
  obtain ⟨ds, h1, rfl⟩ := hg
  obtain ⟨a, vs, rfl, h2, h3⟩ := seqOf_rel hs rx h1
  exact ⟨a, vs, rfl, h2, fun p hp => q ρ _ _ (Ext.new hp) (hs.new hp) (.lst upd_same (hs.fresh hp) (h3.ext (Ext.new hp)))⟩
/-- list(x), to be changed -/
def gListN : GC := fun S ws => match ws with
  | [w] => (seqOf S w).map fun ds => (.loc S.length, S ++ [.lst ds])
  | _ => none
theorem c_listN : CallD X (.type "list") gListN := by
  rintro pins s σ H vs us Q I rv ⟨ρ, S, ws, w, S', hs, rx, hg, q⟩
  unfold gListN at hg
  split at hg
  · rename_i x
    rw [Option.map_eq_some_iff] at hg
    obtain ⟨ds, h1, h2⟩ := hg
    cases h2
    obtain ⟨v, rfl, rv'⟩ := rx.one
    obtain ⟨a, us', rfl, h2, h3⟩ := seqOf_rel hs rv' h1
    refine call_list_of pins s σ H _ us Q I rv ⟨a, us', rfl, h2, fun p hp => ?_⟩
    exact q (ρ.add p) _ _ (Ext.alloc hs hp) (hs.alloc hp ⟨us', upd_same, h3.ext (Ext.alloc hs hp)⟩) (new_loc hs)
  · cases hg
/-- list(range(..)) -/
theorem rangeD_rep {ρ : Rho} {H : Hp} (i j : Int) : RepL ρ H (rangeD i (j - i).toNat) (rgV i j) := by
  have key : ∀ (n : Nat) (lo : Int), RepL ρ H (rangeD lo n) ((List.range n).map fun k => V.int (lo + (k : Nat) * 1)) := by
    intro n
    induction n with
    | zero => intro lo; exact .nil
    | succ n ih =>
      intro lo
      rw [List.range_succ_eq_map, List.map_cons, List.map_map]
      refine .cons ?_ ?_
      · simpa using Rep.int (ρ := ρ) (H := H) lo
      · have := ih (lo + 1)
        have e : (List.range n).map ((fun k : Nat => V.int (lo + (k : Nat) * 1)) ∘ Nat.succ) = (List.range n).map fun k => V.int (lo + 1 + (k : Nat) * 1) := by
          apply List.map_congr_left
          intro k _
          show V.int (lo + ((k + 1 : Nat) : Int) * 1) = V.int (lo + 1 + (k : Nat) * 1)
          congr 1
          omega
        rw [e]
        exact this
  have := key (j - i).toNat i
  unfold rgV
  simpa using this
abbrev MR := Env → Sto → Option ((Int × Int) × Sto)
def tDR (K : KW) (m : MR) : L2.St → Hp → (Int → Int → Hp → Prop) → Prop := fun σ H Q => ∃ ρ σd S i j S', SRel K ρ H S ∧ RelE K ρ H σd σ ∧ m σd S = some ((i, j), S') ∧ ∀ ρ' H', Ext ρ H ρ' H' → SRel K ρ' H' S' → Q i j H'
abbrev PDR (X : Cx) (e : Expr) (m : MR) : Prop := PRg X e (tDR (kwOf X) m)
@[simp] def rg1 (a : ME) : MR := fun σ S => (a σ S).bind fun r => match r.1 with
  | .d (.int n) => some ((0, n), r.2)
  | _ => none
@[simp] def rg2 (a b : ME) : MR := fun σ S => (a σ S).bind fun r => (b σ r.2).bind fun q => match r.1, q.1 with
  | .d (.int i), .d (.int j) => some ((i, j), q.2)
  | _, _ => none
theorem dr_1 {a : Expr} {m : ME} {p pos : Pos} (hg : Gl X "range") (hm : X.mg "range" = none) (ha : PD X a m) (na : starEach [a] X.env = (false, eval a X.env) :: starEach [] X.env := by rfl) : PDR X (.Call (.Name "range" p) [a] [] pos) (rg1 m) :=
  fun pins s σ H Q I ⟨ρ, σd, S, i, j, S', hs, he, hmm, q⟩ => prg_1 hg hm ha na pins s σ H Q I (by
    obtain ⟨⟨w1, S1⟩, h1, hmm⟩ := Option.bind_eq_some_iff.mp hmm
    refine ⟨ρ, σd, S, w1, S1, hs, he, h1, fun ρ1 v1 H1 e1 s1 r1 => ?_⟩
    dsimp only at hmm
    split at hmm
    · cases hmm
      cases r1
      exact ⟨_, rfl, q ρ1 H1 e1 s1⟩
    · cases hmm)
theorem dr_2 {a b : Expr} {ma mb : ME} {p pos : Pos} (hg : Gl X "range") (hm : X.mg "range" = none) (ha : PD X a ma) (hb : PD X b mb) (na : starEach [a, b] X.env = (false, eval a X.env) :: starEach [b] X.env := by rfl)
    (nb : starEach [b] X.env = (false, eval b X.env) :: starEach [] X.env := by rfl) (hp : (backTo pos (starEach [b] X.env)).any (·.1) = false := by rfl) : PDR X (.Call (.Name "range" p) [a, b] [] pos) (rg2 ma mb) :=
  fun pins s σ H Q I ⟨ρ, σd, S, i, j, S', hs, he, hmm, q⟩ => prg_2 hg hm ha hb na nb hp pins s σ H Q I (by
    obtain ⟨⟨w1, S1⟩, h1, hmm⟩ := Option.bind_eq_some_iff.mp hmm
    obtain ⟨⟨w2, S2⟩, h2, hmm⟩ := Option.bind_eq_some_iff.mp hmm
    refine ⟨ρ, σd, S, w1, S1, hs, he, h1, fun ρ1 v1 H1 e1 s1 r1 => ⟨ρ1, σd, S1, w2, S2, s1, he.ext e1, h2, fun ρ2 v2 H2 e2 s2 r2 => ?_⟩⟩
    dsimp only at hmm
    split at hmm
    · cases hmm
      cases r1; cases r2
      exact ⟨_, _, rfl, rfl, q ρ2 H2 (e1.trans e2) s2⟩
    · cases hmm)
def rgOk (i j : Int) : Bool := big62 i && big62 j && says ((j - i).toNat ≤ 16777216)
theorem rgOk_of {i j : Int} (h : rgOk i j = true) : RgOk i j := by
  unfold rgOk big62 at h
  rw [Bool.and_eq_true, Bool.and_eq_true, says_iff, says_iff, says_iff] at h
  exact ⟨h.1.1.1, h.1.1.2, h.1.2.1, h.1.2.2, h.2⟩
@[simp] def mListR (m : MR) : ME := fun σ S => (m σ S).bind fun r => if rgOk r.1.1 r.1.2 = true then some (.d (.list (rangeD r.1.1 (r.1.2 - r.1.1).toNat)), r.2) else none
@[simp] def mTupR (m : MR) : ME := fun σ S => (m σ S).bind fun r => if rgOk r.1.1 r.1.2 = true then some (.d (.tuple (rangeD r.1.1 (r.1.2 - r.1.1).toNat)), r.2) else none
theorem d_listR {e : Expr} {m : MR} {p pos : Pos} (hc : X.calm = true) (hg : Gl X "list") (hm : X.mg "list" = none) (he : PDR X e m) (na : starEach [e] X.env = (false, eval e X.env) :: starEach [] X.env := by rfl) : PD X (.Call (.Name "list" p) [e] [] pos) (mListR m) :=
  peImp (pe_listRg hc hg hm he na) fun σ H Q ⟨ρ, σd, S, w, S', hs, he, hmm, q⟩ => by
    obtain ⟨⟨⟨i, j⟩, S1⟩, h1, hmm⟩ := Option.bind_eq_some_iff.mp hmm
    obtain ⟨hf, hmm⟩ := some_if hmm
    cases hmm
    exact ⟨ρ, σd, S, i, j, _, hs, he, h1, fun ρ1 H1 e1 s1 => ⟨rgOk_of hf, fun p hp => q ρ1 _ _ (e1.trans (Ext.new hp)) (s1.new hp) (.lst upd_same (s1.fresh hp) ((rangeD_rep i j).ext (Ext.new hp)))⟩⟩
theorem d_tupR {e : Expr} {m : MR} {p pos : Pos} (hc : X.calm = true) (hg : Gl X "tuple") (hm : X.mg "tuple" = none) (he : PDR X e m) (na : starEach [e] X.env = (false, eval e X.env) :: starEach [] X.env := by rfl) : PD X (.Call (.Name "tuple" p) [e] [] pos) (mTupR m) :=
  peImp (pe_tupRg hc hg hm he na) fun σ H Q ⟨ρ, σd, S, w, S', hs, he, hmm, q⟩ => by
    obtain ⟨⟨⟨i, j⟩, S1⟩, h1, hmm⟩ := Option.bind_eq_some_iff.mp hmm
    obtain ⟨hf, hmm⟩ := some_if hmm
    cases hmm
    exact ⟨ρ, σd, S, i, j, _, hs, he, h1, fun ρ1 H1 e1 s1 => ⟨rgOk_of hf, fun p hp => q ρ1 _ _ (e1.trans (Ext.new hp)) (s1.new hp) (.tup upd_same (s1.fresh hp) ((rangeD_rep i j).ext (Ext.new hp)))⟩⟩

/-! repr -/
def showOk (d : D) : Bool := d.showable && !d.hasDict && decide (d.depth ≤ 64) && fits d.shown.length
def vRepr (S : Sto) (x : W) : Option W := (asD S x).bind fun d => if showOk d = true then some (.d (.str d.shown)) else none
theorem c_repr (hG : X.A.guards = some []) (hu : X.A.units + 66 < cLine) : CallD X (.builtin "repr") (pure1 vRepr) := call1_of fun pins s σ H v u Q ρ S x w I r hs rx hg q => by
  obtain ⟨d, h1, hg⟩ := Option.bind_eq_some_iff.mp hg
  obtain ⟨hf, hg⟩ := some_if hg
  cases hg
  unfold showOk at hf
  rw [Bool.and_eq_true, Bool.and_eq_true, Bool.and_eq_true, Bool.not_eq_true', decide_eq_true_eq] at hf
  obtain ⟨⟨⟨f1, f2⟩, f3⟩, f4⟩ := hf
  have qq := q ρ (.str d.shown) H .refl hs (.str _)
  have dp := asD_dp hs rx h1
  obtain ⟨as, rd⟩ := Dp.reads I d v u dp r
  have ref : ∀ a, u = Value.ref a → wpAny (model X.prog X.w) X.A (call (.builtin "repr") [u]) (EP X pins σ Q) X.xe s := by
    rintro a rfl
    exact PySem.repr_of_reads' rd f1 (PySem.PyData.noDict_hsm f2) hG (by omega) (fun b o e => e) (fun h' u' tk hk => ⟨.str d.shown, H, I.kept hk, ⟨_, rfl⟩, qq⟩) (fits_ok f4)
  cases dp with
  | non => cases r; exact PySem.P.repr_of_none ⟨.str (PyData.shown .none), H, I.tok _, ⟨_, by simp only [PyData.shown]; rfl⟩, qq⟩
  | bl b => cases r; exact PySem.P.repr_of_bool ⟨.str (PyData.shown (.bool b)), H, I.tok _, ⟨_, by simp only [PyData.shown]; rfl⟩, qq⟩
  | int i =>
    obtain ⟨t, rfl⟩ := r
    exact PySem.P.repr_of_int (of_decide_eq_true f1) ⟨.str (PyData.shown (.int i)), H, I.tok _, ⟨_, by simp only [PyData.shown]; rfl⟩, qq⟩
  | str z =>
    obtain ⟨t, rfl⟩ := r
    exact PySem.P.repr_of_str ⟨.str (PyData.shown (.str z)), H, I.tok _, ⟨_, by simp only [PyData.shown]; rfl⟩, qq⟩ (by have := fits_ok f4; simpa only [PyData.shown] using this)
  | lst _ _ => exact ref _ r
  | tup _ _ => exact ref _ r

/-! methods of lists -/
def isLoc (S : Sto) : W → Bool
  | .loc i => match S[i]? with
    | some (.lst _) => true
    | _ => false
  | .d (.list _) => true
  | _ => false
theorem ty_list : TyD X "list" isLoc := fun ρ H S w v hs r h => by
  cases w with
  | d x =>
    cases x with
    | list xs =>
      obtain ⟨a, vs, rfl, h1, _⟩ := rep_lst r
      exact .inl ⟨rfl, vs, SqL.of h1⟩
    | _ => cases h
  | loc i =>
    simp only [isLoc] at h
    split at h
    · rename_i xs e
      obtain ⟨a, vs, rfl, _, h2, _⟩ := hs.lst_at r e
      exact .inl ⟨rfl, vs, SqL.of h2⟩
    · cases h
  | _ => cases h
def gAppend : GM := fun S x ws => match x, ws with
  | .loc i, [.d y] => match S[i]? with
    | some (.lst xs) => if fits (xs.length + 1) = true then some (.d .none, S.set i (.lst (xs ++ [y]))) else none
    | _ => none
  | _, _ => none
theorem t_append : MtD X "list.append" gAppend := by
  rintro pins s σ H x vs v us Q I rx rvs ⟨ρ, S, w, ws, w', S', hs, rw', rws, hg, q⟩
  unfold gAppend at hg
  split at hg
  · rename_i i y
    split at hg
    · rename_i xs e
      obtain ⟨hf, hg⟩ := some_if hg
      cases hg
      obtain ⟨a, zs, rfl, hl, h2, h3⟩ := hs.lst_at rw' e
      obtain ⟨z, rfl, rz⟩ := rws.one
      have hm := List.mem_of_getElem? hl
      refine mt_append pins s σ H _ _ _ _ Q I rx rvs ⟨a, zs, z, rfl, rfl, h2, by rw [← h3.length]; exact fits_lt hf, ?_⟩
      exact q ρ _ _ (Ext.write hm) (hs.write hl ⟨_, upd_same, (h3.append (.cons rz .nil)).ext (Ext.write hm)⟩) .non
    · cases hg
  · cases hg
def gExtend : GM := fun S x ws => match x, ws with
  | .loc i, [.d (.list ys)] => match S[i]? with
    | some (.lst xs) => if fits (xs.length + ys.length) = true then some (.d .none, S.set i (.lst (xs ++ ys))) else none
    | _ => none
  | _, _ => none
theorem t_extend : MtD X "list.extend" gExtend := by
  rintro pins s σ H x vs v us Q I rx rvs ⟨ρ, S, w, ws, w', S', hs, rw', rws, hg, q⟩
  unfold gExtend at hg
  split at hg
  · rename_i i ys
    split at hg
    · rename_i xs e
      obtain ⟨hf, hg⟩ := some_if hg
      cases hg
      obtain ⟨a, zs, rfl, hl, h2, h3⟩ := hs.lst_at rw' e
      obtain ⟨z, rfl, rz⟩ := rws.one
      obtain ⟨b, us', rfl, g1, g2, g3⟩ := rep_lst rz
      have hm := List.mem_of_getElem? hl
      refine mt_extend pins s σ H _ _ _ _ Q I rx rvs ⟨a, b, zs, us', rfl, rfl, h2, g1, by rw [← h3.length, ← g3.length]; exact fits_ok hf, ?_⟩
      exact q ρ _ _ (Ext.write hm) (hs.write hl ⟨_, upd_same, (h3.append g3).ext (Ext.write hm)⟩) .non
    · cases hg
  · cases hg
/-- the first place of an equal item -/
def indexD (d : D) : List D → Option Nat
  | [] => none
  | z :: ds => if PyData.eqv z d = true then some 0 else (indexD d ds).map (· + 1)
theorem indexD_spec {d : D} : ∀ {ds : List D} {j : Nat}, indexD d ds = some j → ∃ z, ds[j]? = some z ∧ PyData.eqv z d = true ∧ ∀ m z', m < j → ds[m]? = some z' → PyData.eqv z' d = false
  | [], _, h => by cases h
  | z :: ds, j, h => by
    unfold indexD at h
    split at h
    · rename_i e
      cases h
      exact ⟨z, rfl, e, fun m z' hm => by omega⟩
    · rename_i e
      rw [Option.map_eq_some_iff] at h
      obtain ⟨k, hk, rfl⟩ := h
      obtain ⟨z0, h1, h2, h3⟩ := indexD_spec hk
      refine ⟨z0, h1, h2, fun m z' hm hz => ?_⟩
      cases m with
      | zero => simp at hz; subst hz; simpa using e
      | succ m => exact h3 m z' (by omega) (by simpa using hz)
def gIndex : GM := fun S x ws => match ws with
  | [.d y] => (asL S x).bind fun ds => if (flatD y && ds.all flatD) = true then (indexD y ds).map fun (j : Nat) => (W.d (.int (j : Int)), S) else none
  | _ => none
theorem t_index : MtD X "list.index" gIndex := by
  rintro pins s σ H x vs v us Q I rx rvs ⟨ρ, S, w, ws, w', S', hs, rw', rws, hg, q⟩
  unfold gIndex at hg
  split at hg
  · rename_i y
    obtain ⟨ds, hL, hg⟩ := Option.bind_eq_some_iff.mp hg
    split at hg
    · rename_i hf
      rw [Option.map_eq_some_iff] at hg
      obtain ⟨j, hj, h2⟩ := hg
      cases h2
      rw [Bool.and_eq_true] at hf
      obtain ⟨a, zs, rfl, hq, hr⟩ := asL_rel hs rw' hL
      obtain ⟨z, rfl, rz⟩ := rws.one
      obtain ⟨d0, h1, h2, h3⟩ := indexD_spec hj
      obtain ⟨z0, g1, g2⟩ := hr.get h1
      have fl := flatL_rel hr hf.2
      have fd : ∀ {m : Nat} {e : D}, ds[m]? = some e → flatD e = true := fun {m e} he => List.all_eq_true.mp hf.2 e (List.mem_of_getElem? he)
      refine mt_index pins s σ H _ _ _ _ Q I rx rvs ⟨a, zs, z, j, z0, rfl, rfl, hq, flat_rel rz hf.1, fl, g1, by rw [eqV_rel g2 rz (fd h1) hf.1]; exact h2, fun m z' hm hz => ?_, q ρ _ H .refl hs (.int _)⟩
      obtain ⟨e, he, hre⟩ := hr.getV hz
      rw [eqV_rel hre rz (fd he) hf.1]
      exact h3 m e hm he
    · cases hg
  · cases hg
end
end DL

set_option Elab.async false
set_option linter.all false
set_option maxRecDepth 100000
set_option autoImplicit false
noncomputable section
/-! The data layer: dicts walked (locked for a statement), a list or a tuple walked, lists unpacked. -/
namespace DL
open PySem PySem.Spec PyProof.Rows L2
/-! ### a dict is locked, and let go -/
def Dic : HO → Prop
  | .dK _ => True
  | .dT _ => True
  | _ => False
/-- H1 is H but for the dict at d: locked or not -/
structure Step (H H1 : Hp) (d : Addr) (u : HO) : Prop where
  ne : ∀ a, a ≠ d → H1 a = H a
  dic : Dic u
  l : Rd H d u
  r : Rd H1 d u
theorem Step.symm {H H1 : Hp} {d : Addr} {u : HO} (s : Step H H1 d u) : Step H1 H d u := ⟨fun a h => (s.ne a h).symm, s.dic, s.r, s.l⟩
theorem Step.at {H H1 : Hp} {d a : Addr} {u o : HO} (s : Step H H1 d u) (h : H a = some o) (n : o ≠ u) (n2 : ∀ x, o ≠ .frz x u) : H1 a = some o := by
  by_cases e : a = d
  · subst e
    rcases s.l with q | ⟨x, q⟩
    · rw [h] at q; exact absurd (Option.some.inj q) n
    · rw [h] at q; exact absurd (Option.some.inj q) (n2 x)
  · rw [s.ne a e]; exact h
theorem Step.rd {H H1 : Hp} {d a : Addr} {u w : HO} (s : Step H H1 d u) (hw : Dic w) (h : Rd H a w) : Rd H1 a w := by
  by_cases e : a = d
  · subst e
    have : u = w := by
      rcases s.l with q | ⟨x, q⟩ <;> rcases h with p | ⟨y, p⟩ <;> rw [q] at p
      · exact Option.some.inj p
      · have := Option.some.inj p
        subst this
        exact s.dic.elim
      · have := Option.some.inj p
        subst this
        exact hw.elim
      · have := Option.some.inj p
        injection this
    subst this
    exact s.r
  · rcases h with p | ⟨y, p⟩
    · exact .inl (by rw [s.ne a e]; exact p)
    · exact .inr ⟨y, by rw [s.ne a e]; exact p⟩
section
variable {K : KW} {ρ : Rho} {H H1 : Hp} {d : Addr} {u : HO} {S : Sto}
mutual
theorem Rep.step (s : Step H H1 d u) : ∀ {x : D} {v : V}, Rep ρ H x v → Rep ρ H1 x v
  | _, _, .non => .non
  | _, _, .bl b => .bl b
  | _, _, .int i => .int i
  | _, _, .str x => .str x
  | _, _, .tup h n r => .tup (s.at h (fun e => by subst e; exact s.dic.elim) (fun x e => by cases e)) n (RepL.step s r)
  | _, _, .lst h n r => .lst (s.at h (fun e => by subst e; exact s.dic.elim) (fun x e => by cases e)) n (RepL.step s r)
theorem RepL.step (s : Step H H1 d u) : ∀ {xs : List D} {vs : List V}, RepL ρ H xs vs → RepL ρ H1 xs vs
  | _, _, .nil => .nil
  | _, _, .cons r t => .cons (Rep.step s r) (RepL.step s t)
end
theorem RepKV.step {κ : Type} (s : Step H H1 d u) {kvs : List (κ × D)} {us : List (κ × V)} (h : RepKV ρ H kvs us) : RepKV ρ H1 kvs us := by
  induction h with
  | nil => exact .nil
  | cons r _ ih => exact .cons (r.step s) ih
theorem RepN.step (s : Step H H1 d u) {kvs : List (D × D)} {xs : List (NestedKey × Addr × Value)} (h : RepN ρ H kvs xs) : RepN ρ H1 kvs xs := by
  induction h with
  | nil => exact .nil
  | cons a b c e _ ih => exact .cons a (b.step s) (c.step s) e ih
theorem RepF.step (s : Step H H1 d u) {fs : List (Str × FV)} {vs : List (Str × V)} (h : RepF ρ H fs vs) : RepF ρ H1 fs vs := by
  induction h with
  | nil => exact .nil
  | d r _ ih => exact .d (r.step s) ih
  | l r _ ih => exact .l r ih
/-- no dict is known to be locked any more -/
def unl : W → W
  | .kd _ kvs => .kd false kvs
  | .td _ kvs => .td false kvs
  | w => w
theorem RelW.step (s : Step H H1 d u) : ∀ {w : W} {v : V}, RelW K ρ H w v → RelW K ρ H1 (unl w) v
  | .d _, _, h => Rep.step s h
  | .loc i, _, h => h
  | .ct _, _, h => h
  | .sc _, _, ⟨a, e1, h⟩ => ⟨a, e1, h.imp (fun ⟨o, h1, h2⟩ => ⟨o, s.at h1 (fun e => by subst e; exact s.dic.elim) (fun x e => by
      injection e with _ e2
      subst e2
      exact s.dic.elim), h2⟩) id⟩
  | .v _, _, h => h
  | .kd _ _, _, ⟨a, us, e1, n, h1, _, h2⟩ => ⟨a, us, e1, n, s.rd trivial h1, fun z => (by cases z), h2.step s⟩
  | .td _ _, _, ⟨a, us, e1, n, h1, _, h2⟩ => ⟨a, us, e1, n, s.rd trivial h1, fun z => (by cases z), h2.step s⟩
  | .ft _, _, ⟨a, o, vs, e1, n, h1, c1, c2, h2⟩ => ⟨a, o, vs, e1, n, s.at h1 (fun e => by subst e; exact s.dic.elim) (fun x e => by
      injection e with _ e2
      subst e2
      exact s.dic.elim), c1, c2, RepL.step s h2⟩
def unlE (σ : Env) : Env := σ.map fun o => o.map unl
theorem unlE_get {σ : Env} {i : Nat} {w : W} (h : (unlE σ)[i]? = some (some w)) : ∃ w', σ[i]? = some (some w') ∧ w = unl w' := by
  unfold unlE at h
  rw [List.getElem?_map] at h
  cases e : σ[i]? with
  | none => rw [e] at h; cases h
  | some o =>
    rw [e] at h
    cases o with
    | none => simp at h
    | some w' => simp at h; exact ⟨w', rfl, h.symm⟩
theorem RelE.step {σd : Env} {σ : L2.St} (s : Step H H1 d u) (h : RelE K ρ H σd σ) : RelE K ρ H1 (unlE σd) σ :=
  ⟨by unfold unlE; rw [List.length_map]; exact h.len, fun i w hi => by
    obtain ⟨w', h1, rfl⟩ := unlE_get hi
    obtain ⟨v, h2, h3⟩ := h.get i w' h1
    exact ⟨v, h2, h3.step s⟩⟩
theorem ORel.step (s : Step H H1 d u) {a : Addr} (e : H1 a = H a) : ∀ {o : O}, ORel K ρ H a o → ORel K ρ H1 a o
  | .lst _, ⟨vs, h1, r⟩ => ⟨vs, e.trans h1, r.step s⟩
  | .dK _, ⟨vs, h1, r⟩ => ⟨vs, e.trans h1, r.step s⟩
  | .dT _, ⟨vs, h1, r⟩ => ⟨vs, e.trans h1, r.step s⟩
  | .dN _, ⟨vs, h1, h2, h3, r⟩ => ⟨vs, e.trans h1, h2, h3, r.step s⟩
  | .ins _ _, ⟨dx, vs, h1, r⟩ => ⟨dx, vs, e.trans h1, r.step s⟩
  | .dead, h1 => h1
theorem SRel.step (s : Step H H1 d u) (n : ρ.Fr d) (h : SRel K ρ H S) : SRel K ρ H1 S :=
  ⟨h.len, fun i a e => by
    obtain ⟨o, h1, h2⟩ := h.obj i a e
    have hne : a ≠ d := fun z => n.1 (z ▸ List.mem_of_getElem? e)
    exact ⟨o, h1, h2.step s (s.ne a hne)⟩, h.inj, h.live, fun a ha => by
    obtain ⟨⟨xs, e⟩, m⟩ := h.blk a ha
    have hne : a ≠ d := fun z => n.2 (z ▸ ha)
    exact ⟨⟨xs, by rw [s.ne a hne]; exact e⟩, m⟩⟩
end
/-! ### the lock -/
def lockW : W → Option W
  | .kd _ kvs => some (.kd true kvs)
  | .td _ kvs => some (.td true kvs)
  | _ => none
def unlO : Out → Out
  | .nx σ S => .nx (unlE σ) S
  | .bk σ S => .bk (unlE σ) S
  | .ct σ S => .ct (unlE σ) S
  | .rt w S => .rt (unl w) S
def mLock (i : Nat) (m : MS) : MS := fun σ S => (σ[i]?.bind id).bind fun w => (lockW w).bind fun w' => (m ((unlE σ).set i (some w')) S).map unlO
section
variable {K : KW} {ρ : Rho} {H H1 : Hp} {d : Addr} {u : HO} {S : Sto}
theorem RelW.unl : ∀ {w : W} {v : V}, RelW K ρ H w v → RelW K ρ H (unl w) v
  | .d _, _, h => h
  | .loc i, _, h => h
  | .ct _, _, h => h
  | .sc _, _, h => h
  | .v _, _, h => h
  | .kd _ _, _, ⟨a, us, e1, n, h1, _, h2⟩ => ⟨a, us, e1, n, h1, fun z => (by cases z), h2⟩
  | .td _ _, _, ⟨a, us, e1, n, h1, _, h2⟩ => ⟨a, us, e1, n, h1, fun z => (by cases z), h2⟩
  | .ft _, _, h => h
theorem RelE.unl {σd : Env} {σ : L2.St} (h : RelE K ρ H σd σ) : RelE K ρ H (unlE σd) σ :=
  ⟨by unfold unlE; rw [List.length_map]; exact h.len, fun i w hi => by
    obtain ⟨w', h1, rfl⟩ := unlE_get hi
    obtain ⟨v, h2, h3⟩ := h.get i w' h1
    exact ⟨v, h2, h3.unl⟩⟩
theorem RelE.put {σd : Env} {σ : L2.St} (h : RelE K ρ H σd σ) {i : Nat} {v : V} (e : σ[i]? = some (some v)) {w : W} (r : RelW K ρ H w v) : RelE K ρ H (σd.set i (some w)) σ :=
  ⟨by rw [List.length_set]; exact h.len, fun j w' hj => by
    by_cases g : i = j
    · subst g
      rw [List.getElem?_set] at hj
      simp at hj
      obtain ⟨_, rfl⟩ := hj
      exact ⟨v, e, r⟩
    · rw [List.getElem?_set_ne g] at hj
      exact h.get j w' hj⟩
theorem step_ext {ρ' : Rho} {H' : Hp} (s : Step H H1 d u) (n : ρ.Fr d) (h : H d = some u) (e : Ext ρ H1 ρ' H') {o : Obj} (h1 : H1 d = some (.frz o u)) : Ext ρ H ρ' (upd H' d u) := by
  have hk := e.keep d _ h1 n.1
  refine ⟨fun a w ha na => ?_, e.loc, e.len, fun a ha => ?_, fun a ha => ?_, e.bsub⟩
  · by_cases g : a = d
    · subst g
      rw [h] at ha; cases ha
      exact ⟨upd_same, hk.2⟩
    · rw [upd_ne g]
      exact e.keep a w (by rw [s.ne a g]; exact ha) na
  · by_cases g : a = d
    · subst g; rw [upd_same] at ha; cases ha
    · rw [upd_ne g] at ha
      rw [← s.ne a g]
      exact e.dom a ha
  · rcases e.bnew a ha with z | z
    · exact .inl z
    · by_cases g : a = d
      · subst g; rw [h1] at z; cases z
      · exact .inr (by rw [← s.ne a g]; exact z)
theorem lock_out {D : Ends} {out : Out} {o : Obj} (n : ρ.Fr d) (hd : H d = some u) (dic : Dic u) (q : OutOk K ρ H D (unlO out)) :
    OutOk K ρ (upd H d (.frz o u)) ⟨fun σ' H' => H' d = some (.frz o u) ∧ D.nx σ' (upd H' d u), fun v H' => H' d = some (.frz o u) ∧ D.rt v (upd H' d u), fun σ' H' => H' d = some (.frz o u) ∧ D.bk σ' (upd H' d u), fun σ' H' => H' d = some (.frz o u) ∧ D.ct σ' (upd H' d u)⟩ out := by
  have s0 : Step H (upd H d (.frz o u)) d u := ⟨fun b h => upd_ne h, dic, .inl hd, .inr ⟨o, upd_same⟩⟩
  have go : ∀ {ρ' : Rho} {H' : Hp}, Ext ρ (upd H d (.frz o u)) ρ' H' → H' d = some (.frz o u) ∧ Step H' (upd H' d u) d u ∧ ρ'.Fr d ∧ Ext ρ H ρ' (upd H' d u) := fun {ρ'} {H'} e => by
    have h1 := e.at upd_same n
    exact ⟨h1.1, ⟨fun b h => upd_ne h, dic, .inr ⟨o, h1.1⟩, .inl upd_same⟩, h1.2, step_ext s0 n hd e upd_same⟩
  cases out with
  | nx σo So => exact fun ρ' σ' H' e s r => let ⟨a, b, c, f⟩ := go e; ⟨a, q ρ' σ' _ f (s.step b c) (r.step b)⟩
  | bk σo So => exact fun ρ' σ' H' e s r => let ⟨a, b, c, f⟩ := go e; ⟨a, q ρ' σ' _ f (s.step b c) (r.step b)⟩
  | ct σo So => exact fun ρ' σ' H' e s r => let ⟨a, b, c, f⟩ := go e; ⟨a, q ρ' σ' _ f (s.step b c) (r.step b)⟩
  | rt w So => exact fun ρ' v H' e s r => let ⟨a, b, c, f⟩ := go e; ⟨a, q ρ' v _ f (s.step b c) (r.step b)⟩
theorem unl_out {D : Ends} {out : Out} (q : OutOk K ρ H D (unlO out)) : OutOk K ρ H D out := by
  cases out with
  | nx σo So => exact fun ρ' σ' H' e s r => q ρ' σ' _ e s r.unl
  | bk σo So => exact fun ρ' σ' H' e s r => q ρ' σ' _ e s r.unl
  | ct σo So => exact fun ρ' σ' H' e s r => q ρ' σ' _ e s r.unl
  | rt w So => exact fun ρ' v H' e s r => q ρ' v _ e s r.unl
end
section
variable {X : Cx} {e tg : Expr} {st : Stmt}
theorem d_lock (i : Nat) {m : MS} (h : PDS X st m) : PDS X st (mLock i m) := by
  refine ⟨fun pins s σ H D I hw => ?_⟩
  obtain ⟨ρ, σd, S, out, hs, he, hm, q⟩ := hw
  obtain ⟨w, h1, hm⟩ := Option.bind_eq_some_iff.mp hm
  obtain ⟨w', h2, hm⟩ := Option.bind_eq_some_iff.mp hm
  rw [Option.map_eq_some_iff] at hm
  obtain ⟨out1, h3, rfl⟩ := hm
  have hi : σd[i]? = some (some w) := by
    obtain ⟨o, e1, e2⟩ := Option.bind_eq_some_iff.mp h1
    simp at e2
    rw [e1, e2]
  obtain ⟨v, hv, rw'⟩ := he.get i w hi
  cases w with
  | kd b kvs =>
    cases h2
    obtain ⟨a, us, rfl, n, hr, _, kv⟩ := rw'
    rcases hr with hd | ⟨o, hd⟩
    · refine (ps_lock h).run pins s σ H D I ⟨a, .dK us, hd, trivial, fun od => ?_⟩
      have s0 : Step H (upd H a (.frz od (.dK us))) a (.dK us) := ⟨fun b h => upd_ne h, trivial, .inl hd, .inr ⟨od, upd_same⟩⟩
      exact ⟨ρ, _, S, out1, hs.step s0 n, (he.step s0).put hv (w := .kd true kvs) ⟨a, us, rfl, n, .inr ⟨od, upd_same⟩, fun _ => ⟨od, upd_same⟩, kv.step s0⟩, h3, lock_out n hd trivial q⟩
    · exact h.run pins s σ H D I ⟨ρ, _, S, out1, hs, he.unl.put hv (w := .kd true kvs) ⟨a, us, rfl, n, .inr ⟨o, hd⟩, fun _ => ⟨o, hd⟩, kv⟩, h3, unl_out q⟩
  | td b kvs =>
    cases h2
    obtain ⟨a, us, rfl, n, hr, _, kv⟩ := rw'
    rcases hr with hd | ⟨o, hd⟩
    · refine (ps_lock h).run pins s σ H D I ⟨a, .dT us, hd, trivial, fun od => ?_⟩
      have s0 : Step H (upd H a (.frz od (.dT us))) a (.dT us) := ⟨fun b h => upd_ne h, trivial, .inl hd, .inr ⟨od, upd_same⟩⟩
      exact ⟨ρ, _, S, out1, hs.step s0 n, (he.step s0).put hv (w := .td true kvs) ⟨a, us, rfl, n, .inr ⟨od, upd_same⟩, fun _ => ⟨od, upd_same⟩, kv.step s0⟩, h3, lock_out n hd trivial q⟩
    · exact h.run pins s σ H D I ⟨ρ, _, S, out1, hs, he.unl.put hv (w := .td true kvs) ⟨a, us, rfl, n, .inr ⟨o, hd⟩, fun _ => ⟨o, hd⟩, kv⟩, h3, unl_out q⟩
  | _ => cases h2
/-! ### its keys, one by one -/
def kD : Key → D
  | .inl i => .int i
  | .inr x => .str x
theorem kD_rep {ρ : Rho} {H : Hp} (k : Key) : Rep ρ H (kD k) (kV k) := by
  cases k with
  | inl i => exact .int i
  | inr x => exact .str x
theorem kDs_rep {ρ : Rho} {H : Hp} : ∀ ks : List Key, RepL ρ H (ks.map kD) (ks.map kV)
  | [] => .nil
  | k :: ks => .cons (kD_rep k) (kDs_rep ks)
theorem RepKV.at {κ : Type} {ρ : Rho} {H : Hp} {kvs : List (κ × D)} {us : List (κ × V)} (h : RepKV ρ H kvs us) : ∀ {i : Nat} {k : κ} {d : D}, kvs[i]? = some (k, d) → ∃ v, us[i]? = some (k, v) := by
  induction h with
  | nil => intro i k d e; simp at e
  | cons r _ ih =>
    intro i k d e
    cases i with
    | zero => simp at e; exact ⟨_, by simp [e.1]; rfl⟩
    | succ i => simpa using ih (by simpa using e)
def keysOf : W → Option (List D)
  | .kd true kvs => some (kvs.map fun kv => kD kv.1)
  | .td true kvs => some (kvs.map fun kv => .tuple (kv.1.map kD))
  | _ => none
@[simp] def iK (m : ME) : MI := fun σ S => (m σ S).bind fun r => (keysOf r.1).map fun ds => (ds, r.2)
theorem di_keys {m : ME} (he : PD X e m) : PDI X tg e (iK m) := piImp (pi_keys he) fun σ H R ⟨ρ, σd, S, ds, S', hs, hE, hm, q⟩ => by
  obtain ⟨⟨w1, S1⟩, h1, hm⟩ := Option.bind_eq_some_iff.mp hm
  rw [Option.map_eq_some_iff] at hm
  obtain ⟨ds', h2, h3⟩ := hm
  cases h3
  refine ⟨ρ, σd, S, w1, S1, hs, hE, h1, fun ρ1 v H1 e1 s1 r1 => ?_⟩
  dsimp only at h2
  unfold keysOf at h2
  split at h2
  · rename_i kvs
    cases h2
    obtain ⟨a, us, rfl, n, _, hb, kv⟩ := r1
    obtain ⟨o, ho⟩ := hb rfl
    refine ⟨a, o, rfl, .inl ⟨us, ho, q ρ1 _ H1 e1 s1 fun ρ2 H2 S2 e2 s2 i => ?_⟩⟩
    have h4 := (e2.at ho n).1
    have hl := kv.length
    refine ⟨fun hle => ⟨h4, by simp at hle; omega⟩, fun d hd => ?_⟩
    rw [List.getElem?_map, Option.map_eq_some_iff] at hd
    obtain ⟨⟨k, x⟩, hk, rfl⟩ := hd
    obtain ⟨v, hv⟩ := kv.at hk
    refine ⟨⟨h4, (List.getElem?_eq_some_iff.mp hv).1⟩, ?_⟩
    rintro x' H' ⟨rfl, k', v', e5, rfl⟩
    rw [hv] at e5
    cases e5
    exact ⟨Gr.refl, kD_rep k⟩
  · rename_i kvs
    cases h2
    obtain ⟨a, us, rfl, n, _, hb, kv⟩ := r1
    obtain ⟨o, ho⟩ := hb rfl
    refine ⟨a, o, rfl, .inr ⟨us, ho, q ρ1 _ H1 e1 s1 fun ρ2 H2 S2 e2 s2 i => ?_⟩⟩
    have h4 := (e2.at ho n).1
    have hl := kv.length
    refine ⟨fun hle => ⟨h4, by simp at hle; omega⟩, fun d hd => ?_⟩
    rw [List.getElem?_map, Option.map_eq_some_iff] at hd
    obtain ⟨⟨k, x⟩, hk, rfl⟩ := hd
    obtain ⟨v, hv⟩ := kv.at hk
    refine ⟨⟨h4, (List.getElem?_eq_some_iff.mp hv).1⟩, ?_⟩
    rintro x' H' ⟨rfl, k', v', t, e5, rfl, ht⟩
    rw [hv] at e5
    cases e5
    refine ⟨Gr.refl, .tup ht ⟨fun z => ?_, fun z => ?_⟩ (kDs_rep k)⟩
    · obtain ⟨i', hi'⟩ := List.getElem?_of_mem z
      obtain ⟨o', _, h6⟩ := s2.obj i' t hi'
      cases o' with
      | lst _ => obtain ⟨_, h7, _⟩ := h6; rw [ht] at h7; cases h7
      | dK _ => obtain ⟨_, h7, _⟩ := h6; rw [ht] at h7; cases h7
      | dT _ => obtain ⟨_, h7, _⟩ := h6; rw [ht] at h7; cases h7
      | dN _ => obtain ⟨_, h7, _⟩ := h6; rw [ht] at h7; cases h7
      | ins _ _ => obtain ⟨_, _, h7, _⟩ := h6; rw [ht] at h7; cases h7
      | dead => exact h6
    · obtain ⟨⟨xs, h7⟩, _⟩ := s2.blk t z
      rw [ht] at h7; cases h7
  · cases h2
/-! ### a list or a tuple -/
def asS (w : W) : Option (List D) := match asP w with
  | some ds => some ds
  | none => asT w
@[simp] def iS (m : ME) : MI := fun σ S => (m σ S).bind fun r => (asS r.1).map fun ds => (ds, r.2)
theorem di_seq {m : ME} (he : PD X e m) : PDI X tg e (iS m) := by
  refine ⟨fun pins s σ H R I hw => ?_⟩
  obtain ⟨ρ, σd, S, ds, S', hs, hE, hm, q⟩ := hw
  obtain ⟨⟨w1, S1⟩, h1, hm⟩ := Option.bind_eq_some_iff.mp hm
  rw [Option.map_eq_some_iff] at hm
  obtain ⟨ds', h2, h3⟩ := hm
  cases h3
  unfold asS at h2
  split at h2
  · rename_i h4
    cases h2
    exact (di_list he).run pins s σ H R I ⟨ρ, σd, S, ds, S1, hs, hE, by simp only [iL, h1, Option.bind_some, h4, Option.map_some], q⟩
  · exact (di_tup he).run pins s σ H R I ⟨ρ, σd, S, ds, S1, hs, hE, by simp only [iT, h1, Option.bind_some, h2, Option.map_some], q⟩
end
/-! ### a list unpacked -/
def gLstU (n : Nat) (r : MGs) : MG := fun w σ => (asP w).bind fun ds => if decide (ds.length = n) = true then r ds σ else none
section
variable {X : Cx} {es : List Expr} {pos : Pos}
theorem dg_lst {k : Nat} {n : Nat} {r : MGs} (hc : X.calm = true) (h : PDGs X es r) (hn : (assignEach es X.env).length = n := by rfl) (hst : (assignEach es X.env).findIdx? (·.1) = none := by rfl) : PDG X (.Tuple es k pos) (gLstU n r) :=
  pgImp (pg_unl hc h hn hst) fun v σ H Q ⟨ρ, σd, S, w, σ1, hs, he, rr, hg, q⟩ => by
    obtain ⟨ds, h1, h2⟩ := Option.bind_eq_some_iff.mp hg
    obtain ⟨a, vs, rfl, ht, hr⟩ := asP_rel rr h1
    split at h2
    · rename_i hl
      exact ⟨a, vs, rfl, ht ρ H .refl, by rw [← hr.length]; exact of_decide_eq_true hl, ρ, σd, S, ds, σ1, hs, he, hr, h2, q⟩
    · cases h2
end
end DL

set_option Elab.async false
set_option linter.all false
set_option maxRecDepth 100000
set_option autoImplicit false
/-! The data layer, 8: what a printed text leans on. -/
noncomputable section
namespace DL
open PySem PySem.Spec PyProof.Rows L2

theorem u65 {k : Nat} {A : Around} (r : Room k A) : A.units + 65 < cLine := by have := r.un; omega
theorem u66 {k : Nat} {A : Around} (r : Room k A) : A.units + 66 < cLine := by have := r.un; omega
theorem b_abs : bootBuiltins "abs" = some (.builtin "abs") := by decide +kernel
theorem b_all : bootBuiltins "all" = some (.builtin "all") := by decide +kernel
theorem b_any : bootBuiltins "any" = some (.builtin "any") := by decide +kernel
theorem b_len : bootBuiltins "len" = some (.builtin "len") := by decide +kernel
theorem b_max : bootBuiltins "max" = some (.builtin "max") := by decide +kernel
theorem b_min : bootBuiltins "min" = some (.builtin "min") := by decide +kernel
theorem b_sum : bootBuiltins "sum" = some (.builtin "sum") := by decide +kernel
theorem b_repr : bootBuiltins "repr" = some (.builtin "repr") := by decide +kernel
theorem b_sorted : bootBuiltins "sorted" = some (.builtin "sorted") := by decide +kernel
theorem b_isinstance : bootBuiltins "isinstance" = some (.builtin "isinstance") := by decide +kernel
theorem b_int : bootBuiltins "int" = some (.type "int") := by decide +kernel
theorem b_bool : bootBuiltins "bool" = some (.type "bool") := by decide +kernel
theorem b_str : bootBuiltins "str" = some (.type "str") := by decide +kernel
theorem b_list : bootBuiltins "list" = some (.type "list") := by decide +kernel
theorem b_tuple : bootBuiltins "tuple" = some (.type "tuple") := by decide +kernel
theorem b_dict : bootBuiltins "dict" = some (.type "dict") := by decide +kernel
theorem b_set : bootBuiltins "set" = some (.type "set") := by decide +kernel

/-- a constant of the top -/
def Glb (K : PySem.W.Frag) (mg : Str → Option Value) (x : Str) (w : W) : Prop := ∃ v u, mg x = some u ∧ RelV v u ∧ ∀ ww ρ H, RelW ⟨K, ww⟩ ρ H w v
theorem Glb.int {K : PySem.W.Frag} {mg : Str → Option Value} {x : Str} {i : Int} (h : ∃ t, mg x = some (.int i t)) : Glb K mg x (.d (.int i)) :=
  let ⟨t, e⟩ := h; ⟨.int i, _, e, ⟨t, rfl⟩, fun _ _ _ => .int i⟩
theorem Glb.str {K : PySem.W.Frag} {mg : Str → Option Value} {x : Str} {i : Str} (h : ∃ t, mg x = some (.str i t)) : Glb K mg x (.d (.str i)) :=
  let ⟨t, e⟩ := h; ⟨.str i, _, e, ⟨t, rfl⟩, fun _ _ _ => .str i⟩
theorem Glb.tup {K : PySem.W.Frag} {mg : Str → Option Value} {x : Str} {a : Addr} {vs : List V} {ds : List D} (h : mg x = some (.ref a)) (q : ∀ H, SqT K H a vs) (f : FlatL ds vs) : Glb K mg x (.ct ds) :=
  ⟨.ref a, _, h, rfl, fun _ _ _ => ⟨a, vs, rfl, q, f⟩⟩
theorem Glb.name {X : Cx} {x : Str} {w : W} {pos : Pos} (h : Glb X.K X.mg x w) (hg : Gl X x) (hd : (x == ("__debug__" : Str)) = false := by decide) : PD X (.Name x pos) (mC w) :=
  let ⟨_, _, e, r, rw'⟩ := h
  d_glob hg e r (rw' X.w) hd

/-- a def of the top that is called by its name -/
structure Cal (P : Program) (w : World) (K : PySem.W.Frag) (mg : Str → Option Value) (base : Heap) (k : Nat) (x : Str) (n : Nat) (g : Fn) : Prop where
  ex : ∃ (f : Addr) (fd : FuncData) (ps : List Str), FnG P w K mg base CX0 k f fd ps (spD ⟨K, w⟩ n g) ∧ mg x = some (.ref f) ∧ PySem.W.keepIn K (.ref f) = true ∧ Binds K fd ps [] ∧ ps.length = n
/-- .. by keywords -/
structure CalK (P : Program) (w : World) (K : PySem.W.Frag) (mg : Str → Option Value) (base : Heap) (k : Nat) (x : Str) (n : Nat) (g : Fn) (ks : List Str) (is : List Nat) : Prop where
  ex : ∃ (f : Addr) (fd : FuncData) (ps : List Str), FnG P w K mg base CX0 k f fd ps (spD ⟨K, w⟩ n g) ∧ mg x = some (.ref f) ∧ PySem.W.keepIn K (.ref f) = true ∧ ps.length = n ∧
    ∀ (s : Shared) (ws : List Value), (permL is ws).length = ps.length → BindsTo s fd ⟨[], ks.zip ws⟩ (ps.zip (permL is ws))
section
variable {P : Program} {w : World} {K : PySem.W.Frag} {mg : Str → Option Value} {base : Heap} {k n : Nat} {x : Str} {g : Fn} {st : Stmt} {f : Addr} {fd : FuncData} {N ps : List Str} {b : MS}
theorem fn_mk {n : Nat} (F : FunD K x x (defArgs st) (defBody st) (defScope st) [] [] f fd) (S : FnScope N ps (defScope st)) (hn : ps.length = n) {m : Nat} (hN : N.length = m)
    (h : ∀ (cdv : Value) (A : Around) (outer : List PySem.Env) (s : Shared) (H : Hp) (E : XK), (cxOf CX0 P w K mg base N x (defScope st) f cdv A outer s H E).nox.A.guards = some [] → Room k (cxOf CX0 P w K mg base N x (defScope st) f cdv A outer s H E).nox.A →
      PDSs (cxOf CX0 P w K mg base N x (defScope st) f cdv A outer s H E).nox (defBody st) b) : FnG P w K mg base CX0 (k + 1) f fd ps (spD ⟨K, w⟩ n (fnD m b)) := by
  subst hn hN
  exact fn_okG F S fun cdv A outer s H E hg hr => h cdv A outer s H E hg hr
theorem fn_never : FnG P w K mg base CX0 k f fd ps (spD ⟨K, w⟩ n (fun _ _ => none)) := FnG.never fun vs H Q E => spD_none
theorem Cal.of (F : FunD K x x (defArgs st) (defBody st) (defScope st) [] [] f fd) (hm : mg x = some (.ref f)) (G : FnG P w K mg base CX0 k f fd ps (spD ⟨K, w⟩ n g)) (hn : ps.length = n)
    (hb : ∀ (kV doc pm : Value) (an : Option Addr) (cdv ct : Value) (us : List Value), us.length = ps.length → bindArgs (PySem.W.fnOf x x (defArgs st) (defBody st) (defScope st) .none kV doc pm an cdv ct) ⟨us, []⟩ = pure (ps.zip us)) : Cal P w K mg base k x n g :=
  ⟨f, fd, ps, G, hm, F.kp, F.bindsN hb, hn⟩
theorem CalK.of {ks : List Str} {is : List Nat} (F : FunD K x x (defArgs st) (defBody st) (defScope st) [] [] f fd) (hm : mg x = some (.ref f)) (G : FnG P w K mg base CX0 k f fd ps (spD ⟨K, w⟩ n g)) (hn : ps.length = n)
    (hb : ∀ (kV doc pm : Value) (an : Option Addr) (cdv ct : Value) (ws : List Value), (permL is ws).length = ps.length → bindArgs (PySem.W.fnOf x x (defArgs st) (defBody st) (defScope st) .none kV doc pm an cdv ct) ⟨[], ks.zip ws⟩ = pure (ps.zip (permL is ws))) :
    CalK P w K mg base k x n g ks is := by
  obtain ⟨oc, od, dV, kV, doc, pm, an, cdv, ct, osl, rfl, lk, hcd, hD, _⟩ := F.ex
  rcases hD with ⟨_, rfl⟩ | ⟨e, _⟩
  · exact ⟨f, _, ps, G, hm, F.kp, hn, fun s ws hl => .of_eq (hb kV doc pm an cdv ct ws hl)⟩
  · exact absurd rfl e
end
section
variable {X : Cx} {k n : Nat} {x : Str} {g : Fn} {p pos : Pos} {e : Expr} {es : List Expr} {m : MA}
theorem Cal.call (C : Cal X.prog X.w X.K X.mg X.base k x n g) (hG : X.A.guards = some []) (hr : Room k X.A) (hg : Gl X x) (ha : PDA X (e :: es) m)
    (hdb : (x == ("__debug__" : Str)) = false := by decide) (he : starEach (e :: es) X.env = (false, eval e X.env) :: starEach es X.env := by rfl) (hpl : (backTo pos (starEach es X.env)).any (·.1) = false := by rfl) :
    PD X (.Call (.Name x p) (e :: es) [] pos) (mCallF n g m) :=
  let ⟨_, _, _, F, hm, hk, hb, _⟩ := C.ex
  d_call F hG hr hg hm hk hb ha hdb he hpl
theorem Cal.call0 (C : Cal X.prog X.w X.K X.mg X.base k x n g) (hG : X.A.guards = some []) (hr : Room k X.A) (hg : Gl X x) (hdb : (x == ("__debug__" : Str)) = false := by decide) : PD X (.Call (.Name x p) [] [] pos) (mCallF n g mNil) :=
  let ⟨_, _, _, F, hm, hk, hb, _⟩ := C.ex
  d_call0 F hG hr hg hm hk hb hdb
theorem CalK.callK {kws : List Keyword} {ks : List Str} {is : List Nat} (C : CalK X.prog X.w X.K X.mg X.base k x n g ks is) (hG : X.A.guards = some []) (hr : Room k X.A) (hg : Gl X x)
    (ha : PDK X kws m) (hall : (backToKw pos (keywordEach kws X.env)).all (·.1.isSome) = true := by rfl) (hks : (backToKw pos (keywordEach kws X.env)).filterMap (·.1) = ks := by rfl) (hdb : (x == ("__debug__" : Str)) = false := by decide)
    (hpl : ((backTo pos (starEach [] X.env)).any (·.1) || (backToKw pos (keywordEach kws X.env)).any (·.1.isNone)) = false := by rfl) : PD X (.Call (.Name x p) [] kws pos) (mCallK is n g m) :=
  let ⟨_, _, _, F, hm, hk, _, hb⟩ := C.ex
  d_callK is F hG hr hg hm hk hb ha hall hks hdb hpl
end
end DL

set_option Elab.async false
set_option linter.all false
set_option maxRecDepth 100000
set_option autoImplicit false
/-! The data layer, what it computes: how the combinators reduce; the three defs that every law of this program opens with. -/
noncomputable section
namespace DL
open PySem PySem.Spec PyProof.Rows L2
section
variable (S : Sto) (i j : Int)
@[simp] theorem add_int : vAdd S (.d (.int i)) (.d (.int j)) = some (.d (.int (i + j))) := rfl
@[simp] theorem sub_int : vSub S (.d (.int i)) (.d (.int j)) = some (.d (.int (i - j))) := rfl
@[simp] theorem neg_int : vNeg S (.d (.int i)) = some (.d (.int (-i))) := rfl
@[simp] theorem mul_int : vMul S (.d (.int i)) (.d (.int j)) = if mulOk i j = true then some (.d (.int (i * j))) else none := rfl
@[simp] theorem fdiv_int : vFdiv S (.d (.int i)) (.d (.int j)) = if divOk j = true then some (.d (.int (i / j))) else none := rfl
theorem divOk_of {j : Int} (h1 : 0 < j) (h2 : j < 18446744073709551616) : divOk j = true := says_true ⟨h1, h2⟩
@[simp] theorem mod_int : vMod S (.d (.int i)) (.d (.int j)) = if 0 < j then some (.d (.int (i % j))) else none := by simp [vMod]
@[simp] theorem pow_int : vPow S (.d (.int i)) (.d (.int j)) = if powOk i j = true then some (.d (.int (i ^ j.toNat))) else none := rfl
@[simp] theorem cmp_int (f : Int → Int → Bool) : vCmp f S (.d (.int i)) (.d (.int j)) = some (.d (.bool (f i j))) := rfl
@[simp] theorem int22 (f : Int → Int → Int) : vInt22 f S (.d (.int i)) (.d (.int j)) = some (.d (.int (f i j))) := rfl
@[simp] theorem int2_int (f : Int → Int → Int) : vInt2 f S (.d (.int i)) (.d (.int j)) = some (.d (.int (f i j))) := rfl
theorem mulOk_l {i j : Int} (h1 : -18446744073709551616 < i) (h2 : i < 18446744073709551616) : mulOk i j = true := by unfold mulOk; simp [says_iff, h1, h2]
theorem mulOk_r {i j : Int} (h1 : -18446744073709551616 < j) (h2 : j < 18446744073709551616) : mulOk i j = true := by unfold mulOk; simp [says_iff, h1, h2]
theorem powOk_s {i j : Int} (h0 : 0 ≤ j) (h1 : j ≤ 1000000) (h2 : i.natAbs < 18446744073709551616) : powOk i j = true := by unfold powOk; simp [says_iff, h0, h1, h2]
end
@[simp] theorem eq_int (S : Sto) (i j : Int) : vEq S (.d (.int i)) (.d (.int j)) = some (.d (.bool (decide (i = j)))) := by
  have e : PyData.eqv (.int i) (.int j) = decide (i = j) := by first | rfl | simp [PyData.eqv]
  have h : ∀ i : Int, SeqAt.shaped (.int i) = true := fun i => by first | rfl | decide
  simp [vEq, strs2, asD, h, e]
@[simp] theorem ne_int (S : Sto) (i j : Int) : vNe S (.d (.int i)) (.d (.int j)) = some (.d (.bool (!decide (i = j)))) := by
  have e : PyData.eqv (.int i) (.int j) = decide (i = j) := by first | rfl | simp [PyData.eqv]
  have h : ∀ i : Int, SeqAt.shaped (.int i) = true := fun i => by first | rfl | decide
  simp [vNe, strs2, asD, h, e]
@[simp] theorem asL_d (S : Sto) (xs : List D) : asL S (.d (.list xs)) = some xs := rfl
@[simp] theorem asL_sc (S : Sto) (ns : List Int) : asL S (.sc ns) = some (ns.map PyData.int) := rfl
@[simp] theorem asL_loc (S : Sto) (i : Nat) : asL S (.loc i) = (S[i]?.bind fun o => match o with | .lst xs => some xs | _ => none) := by
  cases h : S[i]? with
  | none => simp [asL, h]
  | some o => cases o <;> simp [asL, h]
theorem loc_lst {S : Sto} {i : Nat} {xs : List D} (h : S[i]? = some (.lst xs)) : asL S (.loc i) = some xs := by simp [h]
@[simp] theorem seqOf_d (S : Sto) (xs : List D) : seqOf S (.d (.list xs)) = some xs := rfl
@[simp] theorem seqOf_t (S : Sto) (xs : List D) : seqOf S (.d (.tuple xs)) = some xs := rfl
@[simp] theorem seqOf_ct (S : Sto) (xs : List D) : seqOf S (.ct xs) = some xs := rfl
@[simp] theorem seqOf_sc (S : Sto) (ns : List Int) : seqOf S (.sc ns) = some (ns.map PyData.int) := rfl
@[simp] theorem seqOf_loc (S : Sto) (i : Nat) : seqOf S (.loc i) = asL S (.loc i) := rfl
@[simp] theorem len_seq (S : Sto) (xs : List D) : vLen S (.d (.list xs)) = some (.d (.int xs.length)) := rfl
@[simp] theorem len_tup (S : Sto) (xs : List D) : vLen S (.d (.tuple xs)) = some (.d (.int xs.length)) := rfl
@[simp] theorem len_ct (S : Sto) (xs : List D) : vLen S (.ct xs) = some (.d (.int xs.length)) := rfl
@[simp] theorem len_sc (S : Sto) (ns : List Int) : vLen S (.sc ns) = some (.d (.int ns.length)) := by simp [vLen]
@[simp] theorem len_loc (S : Sto) (i : Nat) : vLen S (.loc i) = (asL S (.loc i)).map fun ds => .d (.int ds.length) := rfl
@[simp] theorem intsOf_nil : intsOf [] = some [] := rfl
@[simp] theorem intsOf_cons (i : Int) (ds : List D) : intsOf (.int i :: ds) = (intsOf ds).map fun ns => i :: ns := rfl
@[simp] theorem boolsOf_nil : boolsOf [] = some [] := rfl
@[simp] theorem boolsOf_cons (i : Bool) (ds : List D) : boolsOf (.bool i :: ds) = (boolsOf ds).map fun ns => i :: ns := rfl
@[simp] theorem ix_list (S : Sto) (xs : List D) (i : Int) : vIx S (.d (.list xs)) (.d (.int i)) = (atI xs i).map W.d := rfl
@[simp] theorem ix_tup (S : Sto) (xs : List D) (i : Int) : vIx S (.d (.tuple xs)) (.d (.int i)) = (atI xs i).map W.d := rfl
@[simp] theorem ix_ct (S : Sto) (xs : List D) (i : Int) : vIx S (.ct xs) (.d (.int i)) = (atI xs i).map W.d := rfl
@[simp] theorem ix_sc (S : Sto) (ns : List Int) (i : Int) : vIx S (.sc ns) (.d (.int i)) = (atI (ns.map PyData.int) i).map W.d := rfl
@[simp] theorem ix_loc (S : Sto) (n : Nat) (i : Int) : vIx S (.loc n) (.d (.int i)) = (asL S (.loc n)).bind fun ds => (atI ds i).map W.d := by
  unfold vIx
  cases h : asL S (.loc n) <;> simp
theorem ixN_pos {n : Nat} {i : Int} (h0 : 0 ≤ i) (h : i < n) : ixN n i = some i.toNat := by simp [ixN, h0, h]
theorem ixN_neg {n : Nat} {i : Int} (h0 : i < 0) (h : -(n : Int) ≤ i) : ixN n i = some (i + n).toNat := by
  have : ¬ 0 ≤ i := by omega
  simp [ixN, this, h]
theorem atI_pos {α : Type} {xs : List α} {i : Int} (h0 : 0 ≤ i) (h : i < xs.length) : atI xs i = xs[i.toNat]? := by unfold atI; rw [ixN_pos h0 h]; rfl
theorem atI_nat {α : Type} {xs : List α} {n : Nat} (h : n < xs.length) : atI xs (n : Int) = xs[n]? := by rw [atI_pos (by omega) (by omega)]; simp
theorem atI_last {α : Type} {xs : List α} (h : xs ≠ []) : atI xs (-1) = xs.getLast? := by
  have hl : 0 < xs.length := List.length_pos_iff.mpr h
  unfold atI
  rw [ixN_neg (by omega) (by omega)]
  have : ((-1 : Int) + (xs.length : Int)).toNat = xs.length - 1 := by omega
  simp [List.getLast?_eq_getElem?, this]
@[simp] theorem set_last {α : Type} (S : List α) (a b : α) : (S ++ [a]).set S.length b = S ++ [b] := by simp
theorem trimOk_take {S T : Sto} (h : T.take S.length = S) : trimOk S T = true := says_true fun i o hi e => .inl (by
  rw [← h, List.getElem?_take_of_lt hi]; exact e)
theorem trimOk_set {S T : Sto} {n : Nat} {o' : O} (h : T.take S.length = S.set n o') (ho : o'.refs = []) : trimOk S T = true := says_true fun i o hi e => by
  have e2 : (S.set n o')[i]? = some o := by rw [← h, List.getElem?_take_of_lt hi]; exact e
  rw [List.getElem?_set] at e2
  split at e2
  · split at e2
    · cases e2
      exact .inr fun r hr => by rw [ho] at hr; cases hr
    · cases e2
  · exact .inl e2
theorem trimOk_nil (T : Sto) : trimOk [] T = true := says_true fun i o hi _ => absurd hi (Nat.not_lt_zero _)
@[simp] theorem trimOk_self (S : Sto) : trimOk S S = true := trimOk_take (List.take_length)
@[simp] theorem trimOk_app (S L : Sto) : trimOk S (S ++ L) = true := trimOk_take (by simp)
@[simp] theorem trimOk_lst (S : Sto) (n : Nat) (xs : List D) : trimOk S (S.set n (.lst xs)) = true := trimOk_set (List.take_of_length_le (by simp)) rfl
@[simp] theorem trimOk_dK (S : Sto) (n : Nat) (xs : List (Key × D)) : trimOk S (S.set n (.dK xs)) = true := trimOk_set (List.take_of_length_le (by simp)) rfl
@[simp] theorem trimOk_dT (S : Sto) (n : Nat) (xs : List (List Key × D)) : trimOk S (S.set n (.dT xs)) = true := trimOk_set (List.take_of_length_le (by simp)) rfl
@[simp] theorem trim_d (S0 : Sto) (d : D) (S : Sto) (h : trimOk S0 S = true) : trim S0 (.d d) S = (.d d, S.take S0.length) := by simp only [trim, h, if_true]
@[simp] theorem take_set_len {α : Type} (S : List α) (n : Nat) (o : α) : (S.set n o).take S.length = S.set n o := List.take_of_length_le (by simp)
theorem lowOk_of {n : Nat} {o : O} (h : o.refs = []) : lowOk n (some o) = true := says_true fun u e r hr => by
  cases e
  rw [h] at hr; cases hr
theorem trim_newO (S : Sto) (o : O) (h : o.refs = []) : trim S (.loc S.length) (S ++ [o]) = (.loc S.length, S ++ [o]) := by simp [trim, lowOk_of h]
theorem trim_new (S : Sto) (xs : List D) : trim S (.loc S.length) (S ++ [.lst xs]) = (.loc S.length, S ++ [.lst xs]) := trim_newO S _ rfl
theorem trim_at (S T : Sto) (i : Nat) (o : O) (h : S.length ≤ i) (hT : T[i]? = some o) (ho : o.refs = []) (hk : trimOk S T = true) : trim S (.loc i) T = (.loc S.length, T.take S.length ++ [o]) := by simp [trim, h, hT, hk, lowOk_of ho]
/-! ### the three defs that every law here opens with -/
def bPotA (k2 k3 k4 k5 k6 : Int) : MS := mSeq (mAsg 2 (mIf (mB (mBin vLt (mVar 1) (mCall (pure1 vLen) (mCons (mVar 0) (mNil))))) (mBin vIx (mVar 0) (mVar 1)) (mBin vAdd (mBin vAdd (mBin vMod (mCall (pure1 vSum) (mCons (mCut (mVar 0) (mNoP) (mP (mInt 1))) (mNil))) (mInt 1000003)) (mBin vMul (mInt k2) (mVar 1))) (mInt k3)))) (mSeq (mAsg 3 (mBin vMul (mBin vMod (mCall (pure1 vInt) (mCons (mCall (pure1 (vInt1 absI)) (mCons (mVar 2) (mNil))) (mNil))) (mBin vPow (mBin vPow (mInt 10) (mInt 60)) (mInt 5))) (mCall (pure1 vInt) (mCons (mBin vGe (mCall (pure1 (vInt1 absI)) (mCons (mVar 2) (mNil))) (mBin vPow (mInt 10) (mInt 18))) (mNil))))) (mSeq (mAsg 4 (mBin vMod (mCall (pure1 vInt) (mCons (mVar 2) (mNil))) (mInt 2305843009213693951))) (mRet (mNew (mCons (mVar 3) (mCons (mBin vMod (mCall (pure1 vInt) (mCons (mBin vAdd (mBin vAdd (mBin vMul (mVar 4) (mInt k4)) (mBin vMul (mBin vMul (mInt k5) (mVar 1)) (mVar 1))) (mInt k6)) (mNil))) (mInt 2305843009213693921)) (mCons (mInt 0) (mNil))))))))
def bPotB (k2 k3 k4 k5 k6 : Int) : MS := mSeq (mAsg 2 (mIf (mB (mBin vLt (mVar 1) (mCall (pure1 vLen) (mCons (mVar 0) (mNil))))) (mBin vIx (mVar 0) (mVar 1)) (mBin vAdd (mBin vMul (mInt k2) (mVar 1)) (mInt k3)))) (mSeq (mAsg 3 (mBin vMul (mBin vMod (mCall (pure1 vInt) (mCons (mCall (pure1 (vInt1 absI)) (mCons (mVar 2) (mNil))) (mNil))) (mBin vPow (mBin vPow (mInt 10) (mInt 60)) (mInt 5))) (mCall (pure1 vInt) (mCons (mBin vGe (mCall (pure1 (vInt1 absI)) (mCons (mVar 2) (mNil))) (mBin vPow (mInt 10) (mInt 18))) (mNil))))) (mSeq (mAsg 4 (mBin vMod (mCall (pure1 vInt) (mCons (mVar 2) (mNil))) (mInt 2305843009213693951))) (mRet (mNew (mCons (mVar 3) (mCons (mBin vMod (mCall (pure1 vInt) (mCons (mBin vAdd (mBin vAdd (mBin vMul (mVar 4) (mInt k4)) (mBin vMul (mBin vMul (mInt k5) (mVar 1)) (mVar 1))) (mInt k6)) (mNil))) (mInt 2305843009213693921)) (mCons (mInt 0) (mNil))))))))
def bTakeA (k1 k2 k3 k4 k5 : Int) : MS := mSeq (mIfS (mB (mBin vGt (mBin vIx (mVar 0) (mInt 0)) (mInt 0))) (mSeq (mAsg 2 (mBin vMod (mCall (pure1 vInt) (mCons (mBin vIx (mVar 0) (mInt 0)) (mNil))) (mVar 1))) (mSeq (mSetI vSetI (mVar 0) (mInt 0) (mBin vFdiv (mBin vIx (mVar 0) (mInt 0)) (mVar 1))) (mRet (mVar 2)))) (mSkip)) (mSeq (mSetI vSetI (mVar 0) (mInt 2) (mBin vAdd (mBin vIx (mVar 0) (mInt 2)) (mInt 1))) (mSeq (mAsg 3 (mBin vIx (mLst (mCons (mInt 2147483647) (mCons (mInt 2147483629) (mCons (mInt 2147483587) (mCons (mInt 2147483579) (mCons (mInt 2147483563) (mNil))))))) (mBin vMod (mCall (pure1 vInt) (mCons (mBin vIx (mVar 0) (mInt 2)) (mNil))) (mInt 5)))) (mSeq (mAsg 4 (mBin vMod (mCall (pure1 vInt) (mCons (mBin vPow (mCall (pure1 vInt) (mCons (mBin vAdd (mBin vAdd (mBin vIx (mVar 0) (mInt 1)) (mBin vMul (mBin vMul (mInt k1) (mBin vIx (mVar 0) (mInt 2))) (mBin vIx (mVar 0) (mInt 2)))) (mInt k2)) (mNil))) (mInt 3)) (mNil))) (mVar 3))) (mSeq (mAsg 4 (mBin vMod (mCall (pure1 vInt) (mCons (mBin vMul (mVar 4) (mBin vAdd (mBin vMod (mCall (pure1 vInt) (mCons (mVar 4) (mNil))) (mInt k3)) (mBin vMul (mInt k4) (mBin vIx (mVar 0) (mInt 2))))) (mNil))) (mInt 2305843009213693907))) (mRet (mBin vMod (mCall (pure1 vInt) (mCons (mBin vFdiv (mVar 4) (mInt k5)) (mNil))) (mVar 1)))))))
def bTakeB (k1 k2 k3 k4 k5 : Int) : MS := mSeq (mIfS (mB (mBin vGt (mBin vIx (mVar 0) (mInt 0)) (mInt 0))) (mSeq (mAsg 2 (mBin vMod (mCall (pure1 vInt) (mCons (mBin vIx (mVar 0) (mInt 0)) (mNil))) (mVar 1))) (mSeq (mSetI vSetI (mVar 0) (mInt 0) (mBin vFdiv (mBin vIx (mVar 0) (mInt 0)) (mVar 1))) (mRet (mVar 2)))) (mSkip)) (mSeq (mSetI vSetI (mVar 0) (mInt 2) (mBin vAdd (mBin vIx (mVar 0) (mInt 2)) (mInt 1))) (mSeq (mAsg 3 (mBin vIx (mLst (mCons (mInt 2147483647) (mCons (mInt 2147483629) (mCons (mInt 2147483587) (mCons (mInt 2147483579) (mCons (mInt 2147483563) (mNil))))))) (mBin vMod (mCall (pure1 vInt) (mCons (mBin vIx (mVar 0) (mInt 2)) (mNil))) (mInt 5)))) (mSeq (mAsg 4 (mBin vMod (mCall (pure1 vInt) (mCons (mBin vPow (mBin vAdd (mBin vAdd (mBin vIx (mVar 0) (mInt 1)) (mBin vMul (mBin vMul (mInt k1) (mBin vIx (mVar 0) (mInt 2))) (mBin vIx (mVar 0) (mInt 2)))) (mInt k2)) (mInt 3)) (mNil))) (mVar 3))) (mSeq (mAsg 4 (mBin vMod (mCall (pure1 vInt) (mCons (mBin vMul (mVar 4) (mBin vAdd (mBin vMod (mCall (pure1 vInt) (mCons (mVar 4) (mNil))) (mInt k3)) (mBin vMul (mInt k4) (mBin vIx (mVar 0) (mInt 2))))) (mNil))) (mInt 2305843009213693907))) (mRet (mBin vMod (mCall (pure1 vInt) (mCons (mBin vFdiv (mVar 4) (mInt k5)) (mNil))) (mVar 1)))))))
def bCells : MS := mRet (mListR (rg1 (mCall (pure2 (vInt22 maxI)) (mCons (mInt 1) (mCons (mCall (pure2 (vInt22 minI)) (mCons (mVar 1) (mCons (mCall (pure1 vLen) (mCons (mVar 0) (mNil))) (mNil)))) (mNil))))))
/-- what a pot is -/
def Pot (k : Int) (o : O) : Prop := ∃ a b c : Int, o = .lst [.int a, .int b, .int c] ∧ 0 ≤ b ∧ b < 2305843009213693951 ∧ 0 ≤ c ∧ c ≤ k
theorem Pot.mono {k k' : Int} {o : O} (h : Pot k o) (l : k ≤ k') : Pot k' o := by
  obtain ⟨a, b, c, e, h1, h2, h3, h4⟩ := h
  exact ⟨a, b, c, e, h1, h2, h3, by omega⟩
theorem absI_nonneg (c : Int) : 0 ≤ absI c := by unfold absI; split <;> omega
theorem powOk_b {i j : Int} (h0 : 0 ≤ j) (h : decide ((Builtin.Int.intBits i : Int) * j ≤ 134217728) = true) : powOk i j = true := by unfold powOk; simp only [Bool.and_eq_true, Bool.or_eq_true, says_iff]; exact ⟨h0, .inr (of_decide_eq_true h)⟩
theorem pow_ten60 : powOk 10 60 = true := powOk_s (by decide) (by decide) (by decide)
theorem pow_own : powOk 1000000000000000000000000000000000000000000000000000000000000 5 = true := powOk_b (by decide) (by decide +kernel)
theorem pow_18 : powOk 10 18 = true := powOk_s (by decide) (by decide) (by decide)
def FnPot (f : Fn) : Prop := ∀ (ns : List Int) (place : Int) (S : Sto), 0 ≤ place → place < 1000 → ∃ o, f [.sc ns, .d (.int place)] S = some (.loc S.length, S ++ [o]) ∧ Pot 0 o
theorem pot_tail (k2 k3 k4 k5 k6 place : Int) (h4 : -10000000 < k4 ∧ k4 < 10000000) (h5 : -10000000 < k5 ∧ k5 < 10000000) (ns : List Int) (S : Sto) (h0 : 0 ≤ place) (h1 : place < 1000) (m : ME) (cell : Int)
    (hm : m [some (.sc ns), some (.d (.int place)), none, none, none] S = some (.d (.int cell), S)) :
    ∃ o, fnD 5 (mSeq (mAsg 2 m) (mSeq (mAsg 3 (mBin vMul (mBin vMod (mCall (pure1 vInt) (mCons (mCall (pure1 (vInt1 absI)) (mCons (mVar 2) (mNil))) (mNil))) (mBin vPow (mBin vPow (mInt 10) (mInt 60)) (mInt 5))) (mCall (pure1 vInt) (mCons (mBin vGe (mCall (pure1 (vInt1 absI)) (mCons (mVar 2) (mNil))) (mBin vPow (mInt 10) (mInt 18))) (mNil))))) (mSeq (mAsg 4 (mBin vMod (mCall (pure1 vInt) (mCons (mVar 2) (mNil))) (mInt 2305843009213693951))) (mRet (mNew (mCons (mVar 3) (mCons (mBin vMod (mCall (pure1 vInt) (mCons (mBin vAdd (mBin vAdd (mBin vMul (mVar 4) (mInt k4)) (mBin vMul (mBin vMul (mInt k5) (mVar 1)) (mVar 1))) (mInt k6)) (mNil))) (mInt 2305843009213693921)) (mCons (mInt 0) (mNil))))))))) [.sc ns, .d (.int place)] S = some (.loc S.length, S ++ [o]) ∧ Pot 0 o := by
  have e1 : mulOk (cell % 2305843009213693951) k4 = true := mulOk_r (by omega) (by omega)
  have e2 : mulOk k5 place = true := mulOk_r (by omega) (by omega)
  have e3 : mulOk (k5 * place) place = true := mulOk_r (by omega) (by omega)
  have e4 : ∀ (x : Int) (p : Prop) [Decidable p], mulOk x (if p then 1 else 0) = true := fun x p _ => by split <;> exact mulOk_r (by decide) (by decide)
  refine ⟨.lst [.int (absI cell % ((10 : Int) ^ 60) ^ 5 * (if decide ((10 : Int) ^ 18 ≤ absI cell) = true then 1 else 0)), .int ((cell % 2305843009213693951 * k4 + k5 * place * place + k6) % 2305843009213693921), .int 0], ?_, _, _, _, rfl, ?_, ?_, Int.le_refl _, Int.le_refl _⟩
  · simp [fnD, hm, pow_ten60, pow_own, pow_18, vGe, e1, e2, e3, e4, fits, trim_new]
    done
  · exact Int.emod_nonneg _ (by decide)
  · have := Int.emod_lt_of_pos (cell % 2305843009213693951 * k4 + k5 * place * place + k6) (b := 2305843009213693921) (by decide)
    omega
theorem potA_ok {k2 k3 k4 k5 k6 : Int} (h2 : -10000000 < k2 ∧ k2 < 10000000) (h4 : -10000000 < k4 ∧ k4 < 10000000) (h5 : -10000000 < k5 ∧ k5 < 10000000) : FnPot (fnD 5 (bPotA k2 k3 k4 k5 k6)) := fun ns place S h0 h1 => by
  have e2 : mulOk k2 place = true := mulOk_r (by omega) (by omega)
  by_cases hl : place < ns.length
  · have hx : ∃ x, atI (ns.map PyData.int) place = some (.int x) := by
      rw [atI_pos h0 (by simpa using hl)]
      exact ⟨ns[place.toNat]'(by omega), by simp [List.getElem?_eq_getElem (show place.toNat < ns.length by omega)]⟩
    obtain ⟨x, hx⟩ := hx
    exact pot_tail k2 k3 k4 k5 k6 place h4 h5 ns S h0 h1 _ x (by simp [vLt, hl, hx])
  · exact pot_tail k2 k3 k4 k5 k6 place h4 h5 ns S h0 h1 _ ((ns.take (min 1 ns.length)).sum % 1000003 + k2 * place + k3) (by simp [vLt, hl, e2, vCut, vSum, cutD, HT.sIx, ← List.map_take])
theorem potB_ok {k2 k3 k4 k5 k6 : Int} (h2 : -10000000 < k2 ∧ k2 < 10000000) (h4 : -10000000 < k4 ∧ k4 < 10000000) (h5 : -10000000 < k5 ∧ k5 < 10000000) : FnPot (fnD 5 (bPotB k2 k3 k4 k5 k6)) := fun ns place S h0 h1 => by
  have e2 : mulOk k2 place = true := mulOk_r (by omega) (by omega)
  by_cases hl : place < ns.length
  · have hx : ∃ x, atI (ns.map PyData.int) place = some (.int x) := by
      rw [atI_pos h0 (by simpa using hl)]
      exact ⟨ns[place.toNat]'(by omega), by simp [List.getElem?_eq_getElem (show place.toNat < ns.length by omega)]⟩
    obtain ⟨x, hx⟩ := hx
    exact pot_tail k2 k3 k4 k5 k6 place h4 h5 ns S h0 h1 _ x (by simp [vLt, hl, hx])
  · exact pot_tail k2 k3 k4 k5 k6 place h4 h5 ns S h0 h1 _ (k2 * place + k3) (by simp [vLt, hl, e2])
def FnTake (f : Fn) : Prop := ∀ (n : Nat) (S : Sto) (k u : Int) (o : O), S[n]? = some o → Pot k o → k < 1000000 → 0 < u → u < 18446744073709551616 → ∃ (d : Int) (o' : O), f [.loc n, .d (.int u)] S = some (.d (.int d), S.set n o') ∧ 0 ≤ d ∧ d < u ∧ Pot (k + 1) o'
theorem primes_at (c : Int) : ∃ p : Int, atI [PyData.int 2147483647, .int 2147483629, .int 2147483587, .int 2147483579, .int 2147483563] (c % 5) = some (.int p) ∧ 0 < p ∧ p < 2147483648 := by
  have h : c % 5 = 0 ∨ c % 5 = 1 ∨ c % 5 = 2 ∨ c % 5 = 3 ∨ c % 5 = 4 := by omega
  rcases h with h | h | h | h | h <;> (rw [h]; exact ⟨_, rfl, by decide, by decide⟩)
theorem atI3 (x y z : D) : atI [x, y, z] 0 = some x ∧ atI [x, y, z] 1 = some y ∧ atI [x, y, z] 2 = some z := ⟨rfl, rfl, rfl⟩
theorem takeA_ok {k1 k2 k3 k4 k5 : Int} (h1 : 0 ≤ k1 ∧ k1 < 200000) (h2 : 0 ≤ k2 ∧ k2 < 10000) (h3 : 0 < k3) (h4 : 0 ≤ k4 ∧ k4 < 10000) (h5 : 0 < k5 ∧ k5 < 18446744073709551616) : FnTake (fnD 5 (bTakeA k1 k2 k3 k4 k5)) := fun n S k u o hn hP hk hu hu2 => by
  obtain ⟨a, b, c, rfl, b0, b1, c0, c1⟩ := hP
  have hlt : n < S.length := (List.getElem?_eq_some_iff.mp hn).1
  have hset : ∀ o : O, (S.set n o)[n]? = some o := fun o => by simp [hlt]
  by_cases ha : 0 < a
  · refine ⟨a % u, .lst [.int (a / u), .int b, .int c], ?_, Int.emod_nonneg _ (by omega), Int.emod_lt_of_pos _ hu, a / u, b, c, rfl, b0, b1, c0, by omega⟩
    simp [fnD, bTakeA, vGt, hn, atI, ixN, ha, hu, divOk_of hu hu2, vSetI]
  · have m1 : mulOk k1 (c + 1) = true := mulOk_r (by omega) (by omega)
    have m2 : mulOk (k1 * (c + 1)) (c + 1) = true := mulOk_r (by omega) (by omega)
    have m3 : mulOk k4 (c + 1) = true := mulOk_r (by omega) (by omega)
    obtain ⟨p, hp, p0, p1⟩ := primes_at (c + 1)
    have q0 : 0 ≤ k1 * (c + 1) := Int.mul_nonneg h1.1 (by omega)
    have q1 : k1 * (c + 1) ≤ 200000 * 1000001 := Int.mul_le_mul (by omega) (by omega) (by omega) (by omega)
    have q2 : 0 ≤ k1 * (c + 1) * (c + 1) := Int.mul_nonneg q0 (by omega)
    have q3 : k1 * (c + 1) * (c + 1) ≤ 200000 * 1000001 * 1000001 := Int.mul_le_mul q1 (by omega) (by omega) (by omega)
    have w1 : powOk (b + k1 * (c + 1) * (c + 1) + k2) 3 = true := powOk_s (by omega) (by omega) (by omega)
    have r0 : 0 ≤ (b + k1 * (c + 1) * (c + 1) + k2) ^ 3 % p := Int.emod_nonneg _ (by omega)
    have r1 : (b + k1 * (c + 1) * (c + 1) + k2) ^ 3 % p < p := Int.emod_lt_of_pos _ p0
    have m4 : mulOk ((b + k1 * (c + 1) * (c + 1) + k2) ^ 3 % p) ((b + k1 * (c + 1) * (c + 1) + k2) ^ 3 % p % k3 + k4 * (c + 1)) = true := mulOk_l (by omega) (by omega)
    refine ⟨(b + k1 * (c + 1) * (c + 1) + k2) ^ 3 % p * ((b + k1 * (c + 1) * (c + 1) + k2) ^ 3 % p % k3 + k4 * (c + 1)) % 2305843009213693907 / k5 % u, .lst [.int a, .int b, .int (c + 1)], ?_, Int.emod_nonneg _ (by omega), Int.emod_lt_of_pos _ hu, a, b, c + 1, rfl, b0, b1, by omega, by omega⟩
    simp [fnD, bTakeA, vGt, hn, atI3, hset, ha, hu, divOk_of h5.1 h5.2, vSetI, ixN, m1, m2, m3, m4, hp, w1, p0, fits, h3]
theorem takeB_ok {k1 k2 k3 k4 k5 : Int} (h1 : 0 ≤ k1 ∧ k1 < 200000) (h2 : 0 ≤ k2 ∧ k2 < 10000) (h3 : 0 < k3) (h4 : 0 ≤ k4 ∧ k4 < 10000) (h5 : 0 < k5 ∧ k5 < 18446744073709551616) : FnTake (fnD 5 (bTakeB k1 k2 k3 k4 k5)) := fun n S k u o hn hP hk hu hu2 => by
  obtain ⟨a, b, c, rfl, b0, b1, c0, c1⟩ := hP
  have hlt : n < S.length := (List.getElem?_eq_some_iff.mp hn).1
  have hset : ∀ o : O, (S.set n o)[n]? = some o := fun o => by simp [hlt]
  by_cases ha : 0 < a
  · refine ⟨a % u, .lst [.int (a / u), .int b, .int c], ?_, Int.emod_nonneg _ (by omega), Int.emod_lt_of_pos _ hu, a / u, b, c, rfl, b0, b1, c0, by omega⟩
    simp [fnD, bTakeB, vGt, hn, atI, ixN, ha, hu, divOk_of hu hu2, vSetI]
  · have m1 : mulOk k1 (c + 1) = true := mulOk_r (by omega) (by omega)
    have m2 : mulOk (k1 * (c + 1)) (c + 1) = true := mulOk_r (by omega) (by omega)
    have m3 : mulOk k4 (c + 1) = true := mulOk_r (by omega) (by omega)
    obtain ⟨p, hp, p0, p1⟩ := primes_at (c + 1)
    have q0 : 0 ≤ k1 * (c + 1) := Int.mul_nonneg h1.1 (by omega)
    have q1 : k1 * (c + 1) ≤ 200000 * 1000001 := Int.mul_le_mul (by omega) (by omega) (by omega) (by omega)
    have q2 : 0 ≤ k1 * (c + 1) * (c + 1) := Int.mul_nonneg q0 (by omega)
    have q3 : k1 * (c + 1) * (c + 1) ≤ 200000 * 1000001 * 1000001 := Int.mul_le_mul q1 (by omega) (by omega) (by omega)
    have w1 : powOk (b + k1 * (c + 1) * (c + 1) + k2) 3 = true := powOk_s (by omega) (by omega) (by omega)
    have r0 : 0 ≤ (b + k1 * (c + 1) * (c + 1) + k2) ^ 3 % p := Int.emod_nonneg _ (by omega)
    have r1 : (b + k1 * (c + 1) * (c + 1) + k2) ^ 3 % p < p := Int.emod_lt_of_pos _ p0
    have m4 : mulOk ((b + k1 * (c + 1) * (c + 1) + k2) ^ 3 % p) ((b + k1 * (c + 1) * (c + 1) + k2) ^ 3 % p % k3 + k4 * (c + 1)) = true := mulOk_l (by omega) (by omega)
    refine ⟨(b + k1 * (c + 1) * (c + 1) + k2) ^ 3 % p * ((b + k1 * (c + 1) * (c + 1) + k2) ^ 3 % p % k3 + k4 * (c + 1)) % 2305843009213693907 / k5 % u, .lst [.int a, .int b, .int (c + 1)], ?_, Int.emod_nonneg _ (by omega), Int.emod_lt_of_pos _ hu, a, b, c + 1, rfl, b0, b1, by omega, by omega⟩
    simp [fnD, bTakeB, vGt, hn, atI3, hset, ha, hu, divOk_of h5.1 h5.2, vSetI, ixN, m1, m2, m3, m4, hp, w1, p0, fits, h3]
/-! ### loops -/
theorem big62_of {i : Int} (h1 : -4611686018427387904 ≤ i) (h2 : i < 4611686018427387904) : big62 i = true := by
  unfold big62
  simp [says_iff, h1, h2]
theorem rangeD_at (n : Nat) : ∀ (lo : Int) (i : Nat), i < n → (rangeD lo n)[i]? = some (.int (lo + i)) := by
  induction n with
  | zero => intro lo i h; omega
  | succ n ih =>
    intro lo i h
    cases i with
    | zero => simp [rangeD]
    | succ i =>
      have := ih (lo + 1) i (by omega)
      simp only [rangeD, List.getElem?_cons_succ, this]
      congr 2
      omega
@[simp] theorem rangeD_length (lo : Int) (n : Nat) : (rangeD lo n).length = n := rangeD_len n lo
/-- a loop that runs through, nothing handed back -/
theorem forM_nx {g : MG} {b : MS} (I : Nat → Env → Sto → Prop) : ∀ (ds : List D) (j : Nat) (σ : Env) (S : Sto), I j σ S →
    (∀ i d σ S, ds[i]? = some d → I (j + i) σ S → ∃ σ1 σ2 S2, g (.d d) σ = some σ1 ∧ b σ1 S = some (.nx σ2 S2) ∧ I (j + i + 1) σ2 S2) →
    ∃ σ' S', forM g b ds σ S = some (.nx σ' S') ∧ I (j + ds.length) σ' S'
  | [], j, σ, S, h0, _ => ⟨σ, S, rfl, h0⟩
  | d :: ds, j, σ, S, h0, hs => by
    obtain ⟨σ1, σ2, S2, h1, h2, h3⟩ := hs 0 d σ S rfl h0
    obtain ⟨σ', S', h4, h5⟩ := forM_nx I ds (j + 1) σ2 S2 h3 fun i d σ S hi hI => by
      have := hs (i + 1) d σ S (by simpa using hi) (by rw [show j + (i + 1) = j + 1 + i by omega]; exact hI)
      rw [show j + (i + 1) + 1 = j + 1 + i + 1 by omega] at this
      exact this
    refine ⟨σ', S', by simp [h1, h2, h4], ?_⟩
    rw [show j + (d :: ds).length = j + 1 + ds.length by simp; omega]
    exact h5
/-- a comprehension with no test; the store may change -/
theorem compM_st {g : MG} {m : ME} (I : Nat → Sto → Prop) (P : D → Prop) : ∀ (ds : List D) (j : Nat) (σ : Env) (S : Sto) (acc : List D), I j S → acc.length + ds.length ≤ 16777216 →
    (∀ i d S, ds[i]? = some d → I (j + i) S → ∃ σ1 x S', g (.d d) σ = some σ1 ∧ m σ1 S = some (.d x, S') ∧ P x ∧ I (j + i + 1) S') →
    ∃ xs S', compM g mYes m ds σ S acc = some (acc ++ xs, S') ∧ I (j + ds.length) S' ∧ xs.length = ds.length ∧ ∀ x ∈ xs, P x
  | [], j, σ, S, acc, h0, _, _ => ⟨[], S, by simp, h0, rfl, fun _ h => by cases h⟩
  | d :: ds, j, σ, S, acc, h0, hl, hs => by
    obtain ⟨σ1, x, S1, h1, h2, hP, h3⟩ := hs 0 d S rfl h0
    simp only [List.length_cons] at hl
    obtain ⟨xs, S', h4, h5, h6, h7⟩ := compM_st I P ds (j + 1) σ S1 (acc ++ [x]) h3 (by simp; omega) fun i d S hi hI => by
      have := hs (i + 1) d S (by simpa using hi) (by rw [show j + (i + 1) = j + 1 + i by omega]; exact hI)
      rw [show j + (i + 1) + 1 = j + 1 + i + 1 by omega] at this
      exact this
    refine ⟨x :: xs, S', ?_, ?_, by simp [h6], fun y hy => ?_⟩
    · have hf : fits (acc.length + 1) = true := decide_eq_true (by omega)
      simp only [compM, mYes] at h4 ⊢
      simp [h1, h2, hf, h4]
    · rw [show j + (d :: ds).length = j + 1 + ds.length by simp; omega]
      exact h5
    · rcases List.mem_cons.mp hy with rfl | hy
      · exact hP
      · exact h7 y hy
/-- a comprehension over data that leaves the store: map and filter -/
theorem compM_pure {g : MG} {t : MT} {m : ME} {σ : Env} {S : Sto} {p : D → Bool} {f : D → D} : ∀ (ds : List D) (acc : List D), acc.length + ds.length ≤ 16777216 →
    (∀ d ∈ ds, ∃ σ1, g (.d d) σ = some σ1 ∧ t σ1 S = some (p d, S) ∧ (p d = true → m σ1 S = some (.d (f d), S))) →
    compM g t m ds σ S acc = some (acc ++ (ds.filter p).map f, S)
  | [], acc, _, _ => by simp
  | d :: ds, acc, hl, hs => by
    obtain ⟨σ1, h1, h2, h3⟩ := hs d (by simp)
    simp only [List.length_cons] at hl
    cases hp : p d with
    | true =>
      have hf : fits (acc.length + 1) = true := decide_eq_true (by omega)
      have ih := compM_pure ds (acc ++ [f d]) (by simp; omega) fun d hd => hs d (by simp [hd])
      simp [h1, h2, hp, h3 hp, hf, ih]
    | false =>
      have ih := compM_pure ds acc (by omega) fun d hd => hs d (by simp [hd])
      simp [h1, h2, hp, ih]
/-- every entry true -/
theorem all_true : ∀ (xs : List D), (∀ x ∈ xs, x = .bool true) → ∃ bs, boolsOf xs = some bs ∧ bs.all id = true
  | [], _ => ⟨[], rfl, rfl⟩
  | x :: xs, h => by
    obtain ⟨bs, h1, h2⟩ := all_true xs fun y hy => h y (by simp [hy])
    have := h x (by simp)
    subst this
    exact ⟨true :: bs, by simp [h1], by simp [h2]⟩
def FnCells (f : Fn) : Prop := ∀ (ns : List Int) (m : Nat), m < 1000 → ∀ S : Sto, ∃ k : Nat, k ≤ m + 1 ∧ f [.sc ns, .d (.int m)] S = some (.d (.list (rangeD 0 k)), S)
theorem cells_ok : FnCells (fnD 2 bCells) := fun ns m hm S => by
  refine ⟨(maxI 1 (minI m ns.length) - 0).toNat, ?_, ?_⟩
  · unfold maxI minI
    split <;> split <;> omega
  · have h : rgOk 0 (maxI 1 (minI m ns.length)) = true := by
      unfold rgOk big62
      simp only [Bool.and_eq_true, says_iff]
      unfold maxI minI
      split <;> split <;> omega
    simp [fnD, bCells, h]
/-- the def that a round of a law asks -/
def FnRight (B : Int) (f : Fn) : Prop := ∀ (n : Nat) (S : Sto) (k : Int) (o : O), S[n]? = some o → Pot k o → k + B ≤ 1000000 → ∃ o', f [.loc n] S = some (.d (.bool true), S.set n o') ∧ Pot (k + B) o'
def bLaw (fc fp fr : Fn) (cells laps : Int) : MS := mSeq (mFor (iL (mCallF 2 fc (mCons (mVar 0) (mCons (mInt cells) (mNil))))) (gN 1) (mSeq (mAsg 2 (mCallF 2 fp (mCons (mVar 0) (mCons (mVar 1) (mNil))))) (mIfS (mNotT (mB (mCall (pure1 vAll) (mCons (mComp (iR1 (mCons (mInt laps) (mNil))) (gN 3) (mYes) (mCallF 1 fr (mCons (mVar 2) (mNil))) [3]) (mNil))))) (mRet (mBool false)) (mSkip)))) (mRet (mBool true))
theorem law_inner {fr : Fn} {B : Int} (laps : Nat) (hl : laps < 1000) (hr : FnRight B fr) (hB : 0 ≤ B) (hb : laps * B ≤ 1000000) (s0 s1 : Option W) (S : Sto) (o : O) (hp2 : Pot 0 o) :
    ∃ xs S2, compM (gN 3) mYes (mCallF 1 fr (mCons (mVar 2) mNil)) (rangeD 0 laps) [s0, s1, some (.loc S.length), none] (S ++ [o]) [] = some ([] ++ xs, S2) ∧ ∀ x ∈ xs, x = .bool true := by
  obtain ⟨xs, S2, c1, c2, c3, c4⟩ := compM_st (g := gN 3) (m := mCallF 1 fr (mCons (mVar 2) (mNil))) (fun j S' => ∃ o', S'[S.length]? = some o' ∧ Pot (j * B) o') (fun x => x = .bool true) (rangeD 0 laps) 0 [s0, s1, some (.loc S.length), none] (S ++ [o]) [] ⟨o, by simp, by simpa using hp2⟩ (by rw [rangeD_length]; show 0 + laps ≤ 16777216; omega) (by
      rintro j d T hj ⟨o', ho, hP⟩
      have hjk : j < laps := by
        have := (List.getElem?_eq_some_iff.mp hj).1
        simpa using this
      have hlt : S.length < T.length := (List.getElem?_eq_some_iff.mp ho).1
      have hle : ((0 + j : Nat) : Int) * B + B ≤ 1000000 := by
        have e : ((0 + j : Nat) : Int) * B + B = ((j + 1 : Nat) : Int) * B := by
          rw [show ((j + 1 : Nat) : Int) = (j : Int) + 1 by omega, Int.add_mul]; simp
        rw [e]
        exact Int.le_trans (Int.mul_le_mul_of_nonneg_right (by omega) hB) hb
      obtain ⟨o2, r1, r2⟩ := hr S.length T _ o' ho hP hle
      refine ⟨_, .bool true, T.set S.length o2, rfl, by simp [r1], rfl, o2, by simp [hlt], ?_⟩
      have e : ((0 + j : Nat) : Int) * B + B = ((0 + j + 1 : Nat) : Int) * B := by
        rw [show ((0 + j + 1 : Nat) : Int) = ((0 + j : Nat) : Int) + 1 by omega, Int.add_mul]; simp
      rw [← e]
      exact r2)
  exact ⟨xs, S2, c1, c4⟩
def bRound (fp fr : Fn) (laps : Int) : MS := mSeq (mAsg 2 (mCallF 2 fp (mCons (mVar 0) (mCons (mVar 1) (mNil))))) (mIfS (mNotT (mB (mCall (pure1 vAll) (mCons (mComp (iR1 (mCons (mInt laps) (mNil))) (gN 3) (mYes) (mCallF 1 fr (mCons (mVar 2) (mNil))) [3]) (mNil))))) (mRet (mBool false)) (mSkip))
theorem law_round {fp fr : Fn} {B : Int} (laps : Nat) (hl : laps < 1000) (hp : FnPot fp) (hr : FnRight B fr) (hB : 0 ≤ B) (hb : laps * B ≤ 1000000) (ns : List Int) (i : Nat) (hi : i < 1000) (y z : Option W) (S : Sto) :
    ∃ S2, bRound fp fr laps [some (.sc ns), some (.d (.int i)), y, z] S = some (.nx [some (.sc ns), some (.d (.int i)), some (.loc S.length), z] S2) := by
  have hbig : big62 (laps : Int) = true := big62_of (by omega) (by omega)
  obtain ⟨o, hp1, hp2⟩ := hp ns (i : Int) S (by omega) (by omega)
  obtain ⟨xs, S2, c1, c4⟩ := law_inner laps hl hr hB hb (some (.sc ns)) (some (.d (.int i))) S o hp2
  obtain ⟨bs, b1, b2⟩ := all_true xs c4
  refine ⟨S2, ?_⟩
  rw [List.nil_append] at c1
  have e1 : iR1 (mCons (mInt laps) mNil) [some (.sc ns), some (.d (.int i)), some (.loc S.length), z] (S ++ [o]) = some (rangeD 0 laps, S ++ [o]) := by
    simp [hbig]
  have e2 : mComp (iR1 (mCons (mInt laps) mNil)) (gN 3) mYes (mCallF 1 fr (mCons (mVar 2) mNil)) [3] [some (.sc ns), some (.d (.int i)), some (.loc S.length), z] (S ++ [o]) = some (.d (.list xs), S2) := by
    unfold mComp
    rw [e1]
    show ((compM (gN 3) mYes (mCallF 1 fr (mCons (mVar 2) mNil)) (rangeD 0 laps) [some (.sc ns), some (.d (.int i)), some (.loc S.length), none] (S ++ [o]) []).map fun q => (W.d (.list q.1), q.2)) = _
    rw [c1]
    rfl
  have e3 : mCallF 2 fp (mCons (mVar 0) (mCons (mVar 1) mNil)) [some (.sc ns), some (.d (.int i)), y, z] S = some (.loc S.length, S ++ [o]) := by simp [hp1]
  have e4 : pure1 vAll S2 [.d (.list xs)] = some (.d (.bool true), S2) := by simp [vAll, b1, b2]
  simp only [bRound, mSeq, mAsg, e3, Option.map_some, Option.bind_some, List.set_cons_succ, List.set_cons_zero, mIfS, mNotT, mB, mCall, mCons, mNil, e2, e4, asB, mSkip]
  rfl
theorem law_std {fc fp fr : Fn} {B : Int} (cells laps : Nat) (hc : cells < 900) (hl : laps < 1000) (hfc : FnCells fc) (hp : FnPot fp) (hr : FnRight B fr) (hB : 0 ≤ B) (hb : laps * B ≤ 1000000) (ns : List Int) :
    ∃ S', fnD 4 (bLaw fc fp fr cells laps) [.sc ns] [] = some (.d (.bool true), S') := by
  obtain ⟨k, hk, hcl⟩ := hfc ns cells (by omega) []
  obtain ⟨σ', S', h1, h2, h3⟩ := forM_nx (g := gN 1) (b := bRound fp fr laps) (fun i σ S => ∃ x y z, σ = [some (.sc ns), x, y, z]) (rangeD 0 k) 0 [some (.sc ns), none, none, none] [] ⟨_, _, _, rfl⟩ (by
    rintro i d σ S hi ⟨x, y, z, rfl⟩
    have hik : i < k := by
      have := (List.getElem?_eq_some_iff.mp hi).1
      simpa using this
    rw [rangeD_at k 0 i hik, Int.zero_add] at hi
    cases hi
    obtain ⟨S2, h⟩ := law_round laps hl hp hr hB hb ns i (by omega) y z S
    exact ⟨_, _, S2, rfl, h, ⟨_, _, _, rfl⟩⟩)
  exact ⟨_, by simp only [bRound] at h1; simp [fnD, bLaw, hcl, h1, -forM, trim_d [] _ _ (trimOk_nil _)]; rfl⟩
end DL

set_option Elab.async false
set_option linter.all false
set_option maxRecDepth 100000
set_option autoImplicit false
noncomputable section
/-! The data layer, what it computes: more of it. -/
namespace DL
open PySem PySem.Spec PyProof.Rows L2
@[simp] theorem isi_int_int (S : Sto) (i : Int) : vIsi S (.d (.int i)) (.v (.ty "int")) = some (.d (.bool true)) := rfl
@[simp] theorem isi_int_bool (S : Sto) (i : Int) : vIsi S (.d (.int i)) (.v (.ty "bool")) = some (.d (.bool false)) := rfl
@[simp] theorem isi_int_str (S : Sto) (i : Int) : vIsi S (.d (.int i)) (.v (.ty "str")) = some (.d (.bool false)) := rfl
@[simp] theorem isi_int_tuple (S : Sto) (i : Int) : vIsi S (.d (.int i)) (.v (.ty "tuple")) = some (.d (.bool false)) := rfl
@[simp] theorem isi_tuple (S : Sto) (xs : List D) : vIsi S (.d (.tuple xs)) (.v (.ty "tuple")) = some (.d (.bool true)) := rfl
@[simp] theorem isi_list (S : Sto) (xs : List D) : vIsi S (.d (.list xs)) (.v (.ty "list")) = some (.d (.bool true)) := rfl
@[simp] theorem isi_str (S : Sto) (x : Str) : vIsi S (.d (.str x)) (.v (.ty "str")) = some (.d (.bool true)) := rfl
@[simp] theorem eqv_int (i j : Int) : PyData.eqv (.int i) (.int j) = decide (i = j) := by first | rfl | simp [PyData.eqv]
theorem atI_neg {α : Type} {xs : List α} (k : Nat) {i : Int} (hk : i = -(k : Int)) (h0 : 0 < k) (h : k ≤ xs.length) : atI xs i = xs[xs.length - k]? := by
  unfold atI
  rw [ixN_neg (by omega) (by omega)]
  have : (i + (xs.length : Int)).toNat = xs.length - k := by omega
  simp [this]
@[simp] theorem lookD_d (S : Sto) (d : D) (w : W) : lookD S (.d d) w = none := rfl
@[simp] theorem lookD_ct (S : Sto) (ds : List D) (w : W) : lookD S (.ct ds) w = none := rfl
theorem hasD_int (x : Int) (xs : List Int) : hasD (.int x) (xs.map PyData.int) = decide (x ∈ xs) := by
  unfold hasD
  induction xs with
  | nil => rfl
  | cons y ys ih =>
    simp only [List.map_cons, List.any_cons, ih, eqv_int, List.mem_cons, Bool.decide_or]
    congr 1
    exact decide_eq_decide.mpr ⟨fun h => h.symm, fun h => h.symm⟩
theorem memOk_int (x : Int) (xs : List Int) : memOk (.int x) (xs.map PyData.int) = true := by
  simp [memOk, flatD]
@[simp] theorem in_ints (S : Sto) (x : Int) (xs : List Int) : vIn S (.d (.int x)) (.d (.list (xs.map PyData.int))) = some (.d (.bool (decide (x ∈ xs)))) := by
  simp [vIn, vHas, asD, memOk_int, hasD_int]
@[simp] theorem notIn_ints (S : Sto) (x : Int) (xs : List Int) : vNotIn S (.d (.int x)) (.d (.list (xs.map PyData.int))) = some (.d (.bool (!decide (x ∈ xs)))) := by
  simp [vNotIn, vHas, asD, memOk_int, hasD_int]
@[simp] theorem in_tup (S : Sto) (x : Int) (xs : List Int) : vIn S (.d (.int x)) (.d (.tuple (xs.map PyData.int))) = some (.d (.bool (decide (x ∈ xs)))) := by
  simp [vIn, vHas, asD, memOk_int, hasD_int]
@[simp] theorem notIn_tup (S : Sto) (x : Int) (xs : List Int) : vNotIn S (.d (.int x)) (.d (.tuple (xs.map PyData.int))) = some (.d (.bool (!decide (x ∈ xs)))) := by
  simp [vNotIn, vHas, asD, memOk_int, hasD_int]
theorem indexD_at {x : Int} : ∀ {xs : List Int} {i : Nat}, xs[i]? = some x → (∀ j, j < i → xs[j]? ≠ some x) → indexD (.int x) (xs.map PyData.int) = some i
  | [], _, h, _ => by simp at h
  | y :: ys, 0, h, _ => by
    simp at h
    simp [indexD, h]
  | y :: ys, i + 1, h, hn => by
    have h0 : y ≠ x := fun e => hn 0 (by omega) (by simp [e])
    have := indexD_at (xs := ys) (i := i) (by simpa using h) fun j hj => by simpa using hn (j + 1) (by omega)
    simp [indexD, h0, this]
theorem index_at {S : Sto} {x : Int} {xs : List Int} {i : Nat} (h : xs[i]? = some x) (hn : ∀ j, j < i → xs[j]? ≠ some x) : gIndex S (.d (.list (xs.map PyData.int))) [.d (.int x)] = some (.d (.int i), S) := by
  simp [gIndex, flatD, indexD_at h hn]
/-- a comprehension with no test; the store may change, what it gives is told -/
theorem compM_map {g : MG} {m : ME} {σ : Env} (I : Sto → Prop) (f : D → D) : ∀ (ds : List D) (S : Sto) (acc : List D), I S → acc.length + ds.length ≤ 16777216 →
    (∀ d S, d ∈ ds → I S → ∃ σ1 S', g (.d d) σ = some σ1 ∧ m σ1 S = some (.d (f d), S') ∧ I S') →
    ∃ S', compM g mYes m ds σ S acc = some (acc ++ ds.map f, S') ∧ I S'
  | [], S, acc, h0, _, _ => ⟨S, by simp, h0⟩
  | d :: ds, S, acc, h0, hl, hs => by
    obtain ⟨σ1, S1, h1, h2, h3⟩ := hs d S (by simp) h0
    simp only [List.length_cons] at hl
    obtain ⟨S', h4, h5⟩ := compM_map I f ds S1 (acc ++ [f d]) h3 (by simp; omega) fun d S hd hI => hs d S (by simp [hd]) hI
    refine ⟨S', ?_, h5⟩
    have hf : fits (acc.length + 1) = true := decide_eq_true (by omega)
    simp [h1, h2, hf, h4]
/-- a comprehension with no test that leaves the store -/
theorem compM_map0 {g : MG} {m : ME} {σ : Env} {S : Sto} (f : D → D) (ds : List D) (hl : ds.length ≤ 16777216) (hs : ∀ d ∈ ds, ∃ σ1, g (.d d) σ = some σ1 ∧ m σ1 S = some (.d (f d), S)) :
    compM g mYes m ds σ S [] = some (ds.map f, S) := by
  obtain ⟨S', h1, h2⟩ := compM_map (g := g) (m := m) (σ := σ) (fun T => T = S) f ds S [] rfl (by simpa using hl) fun d T hd e => by
    subst e
    obtain ⟨σ1, h1, h2⟩ := hs d hd
    exact ⟨σ1, T, h1, h2, rfl⟩
  subst h2
  simpa using h1
theorem rangeD_eq (n : Nat) : ∀ lo : Int, rangeD lo n = (List.range n).map fun (i : Nat) => PyData.int (lo + (i : Int)) := by
  induction n with
  | zero => intro lo; rfl
  | succ n ih =>
    intro lo
    rw [List.range_succ_eq_map]
    simp only [rangeD, ih, List.map_cons, List.map_map]
    congr 1
    · simp
    · apply List.map_congr_left
      intro i _
      simp
      omega
end DL
namespace DL
open PySem PySem.Spec PyProof.Rows L2
/-- the same, over what a plain list becomes -/
theorem compM_mapE {α : Type} {g : MG} {m : ME} {σ : DL.Env} (I : Sto → Prop) (e f : α → D) : ∀ (xs : List α) (S : Sto) (acc : List D), I S → acc.length + xs.length ≤ 16777216 →
    (∀ x S, x ∈ xs → I S → ∃ σ1 S', g (.d (e x)) σ = some σ1 ∧ m σ1 S = some (.d (f x), S') ∧ I S') →
    ∃ S', compM g mYes m (xs.map e) σ S acc = some (acc ++ xs.map f, S') ∧ I S'
  | [], S, acc, h0, _, _ => ⟨S, by simp, h0⟩
  | d :: ds, S, acc, h0, hl, hs => by
    obtain ⟨σ1, S1, h1, h2, h3⟩ := hs d S (by simp) h0
    simp only [List.length_cons] at hl
    obtain ⟨S', h4, h5⟩ := compM_mapE I e f ds S1 (acc ++ [f d]) h3 (by simp; omega) fun d S hd hI => hs d S (by simp [hd]) hI
    refine ⟨S', ?_, h5⟩
    have hf : fits (acc.length + 1) = true := decide_eq_true (by omega)
    simp [h1, h2, hf, h4]
theorem compM_mapE0 {α : Type} {g : MG} {m : ME} {σ : DL.Env} {S : Sto} (e f : α → D) (xs : List α) (hl : xs.length ≤ 16777216) (hs : ∀ x ∈ xs, ∃ σ1, g (.d (e x)) σ = some σ1 ∧ m σ1 S = some (.d (f x), S)) :
    compM g mYes m (xs.map e) σ S [] = some (xs.map f, S) := by
  obtain ⟨S', h1, h2⟩ := compM_mapE (g := g) (m := m) (σ := σ) (fun T => T = S) e f xs S [] rfl (by simpa using hl) fun d T hd e => by
    subst e
    obtain ⟨σ1, h1, h2⟩ := hs d hd
    exact ⟨σ1, T, h1, h2, rfl⟩
  subst h2
  simpa using h1
theorem cutD_from1 (ds : List D) : cutD ds (some 1) none = ds.tail := by
  cases ds with
  | nil => rfl
  | cons d ds => simp [cutD, HT.sIx]
theorem zipD_map {α β : Type} (e : α → D) (f : β → D) : ∀ (xs : List α) (ys : List β), zipD (xs.map e) (ys.map f) = (xs.zip ys).map fun p => .tuple [e p.1, f p.2]
  | [], _ => by simp [zipD]
  | _ :: _, [] => by simp [zipD]
  | x :: xs, y :: ys => by simp [zipD, zipD_map e f xs ys]
theorem all_map_true {α : Type} (xs : List α) (f : α → D) (h : ∀ x ∈ xs, f x = .bool true) (S : Sto) : vAll S (.d (.list (xs.map f))) = some (.d (.bool true)) := by
  obtain ⟨bs, h1, h2⟩ := all_true (xs.map f) fun y hy => by
    obtain ⟨x, hx, rfl⟩ := List.mem_map.mp hy
    exact h x hx
  simp only [vAll, asL_d, Option.bind_some, h1, Option.map_some, h2]
theorem any_map {α : Type} (xs : List α) (p : α → Bool) (S : Sto) : vAny S (.d (.list (xs.map fun x => .bool (p x)))) = some (.d (.bool (xs.any p))) := by
  have : boolsOf (xs.map fun x => .bool (p x)) = some (xs.map p) := by
    have := boolsOf_map (xs.map p)
    rwa [List.map_map] at this
  simp only [vAny, asL_d, Option.bind_some, this, Option.map_some, List.any_map]
  rfl
theorem all_map {α : Type} (xs : List α) (p : α → Bool) (S : Sto) : vAll S (.d (.list (xs.map fun x => .bool (p x)))) = some (.d (.bool (xs.all p))) := by
  have : boolsOf (xs.map fun x => .bool (p x)) = some (xs.map p) := by
    have := boolsOf_map (xs.map p)
    rwa [List.map_map] at this
  simp only [vAll, asL_d, Option.bind_some, this, Option.map_some, List.all_map]
  rfl
theorem set_same {α : Type} {S : List α} {n : Nat} {o : α} (h : S[n]? = some o) : S.set n o = S := by
  obtain ⟨hl, e⟩ := List.getElem?_eq_some_iff.mp h
  subst e
  simp
/-- n different numbers under N -/
theorem nodup_le : ∀ (N : Nat) (l : List Nat), l.Nodup → (∀ x ∈ l, x < N) → l.length ≤ N
  | 0, [], _, _ => Nat.le_refl _
  | 0, x :: _, _, h => absurd (h x (by simp)) (by omega)
  | N + 1, l, hd, h => by
    have h1 := nodup_le N (l.erase N) (hd.erase N) fun x hx => by
      have := (List.Nodup.mem_erase_iff hd).mp hx
      have := h x this.2
      omega
    rw [List.length_erase] at h1
    split at h1 <;> omega
end DL
namespace DL
open PySem PySem.Spec PyProof.Rows L2
theorem eqvAll_nums : ∀ xs ys : List Int, PyData.eqvAll (xs.map PyData.int) (ys.map PyData.int) = decide (xs = ys)
  | [], [] => by simp [PyData.eqvAll]
  | [], _ :: _ => by simp [PyData.eqvAll]
  | _ :: _, [] => by simp [PyData.eqvAll]
  | x :: xs, y :: ys => by
    simp only [List.map_cons, PyData.eqvAll, eqv_int, eqvAll_nums xs ys, List.cons.injEq, Bool.decide_and]
theorem eqv_list_nums (xs ys : List Int) : PyData.eqv (.list (xs.map PyData.int)) (.list (ys.map PyData.int)) = decide (xs = ys) := by
  simp only [PyData.eqv]; exact eqvAll_nums xs ys
theorem eqv_tuple_nums (xs ys : List Int) : PyData.eqv (.tuple (xs.map PyData.int)) (.tuple (ys.map PyData.int)) = decide (xs = ys) := by
  simp only [PyData.eqv]; exact eqvAll_nums xs ys
theorem lay_nums : ∀ xs : List Int, PyData.canLayAll0 (xs.map PyData.int) = true
  | [] => by simp [PyData.canLayAll0]
  | x :: xs => by simp [PyData.canLayAll0, PyData.canLay0, lay_nums xs]
theorem depth_nums : ∀ xs : List Int, PyData.depthAll (xs.map PyData.int) = 0
  | [] => by simp [PyData.depthAll]
  | x :: xs => by simp [PyData.depthAll, PyData.depth, depth_nums xs]
theorem shaped_list_nums (xs : List Int) : SeqAt.shaped (.list (xs.map PyData.int)) = true := by
  simp [SeqAt.shaped, PyData.canLay0, PyData.depth, lay_nums, depth_nums]
theorem shaped_tuple_nums (xs : List Int) : SeqAt.shaped (.tuple (xs.map PyData.int)) = true := by
  simp [SeqAt.shaped, PyData.canLay0, PyData.depth, lay_nums, depth_nums]
theorem eq_list_nums (S : Sto) (xs ys : List Int) : vEq S (.d (.list (xs.map PyData.int))) (.d (.list (ys.map PyData.int))) = some (.d (.bool (decide (xs = ys)))) := by
  simp [vEq, strs2, asD, shaped_list_nums, eqv_list_nums]
theorem ne_list_nums (S : Sto) (xs ys : List Int) : vNe S (.d (.list (xs.map PyData.int))) (.d (.list (ys.map PyData.int))) = some (.d (.bool (!decide (xs = ys)))) := by
  simp [vNe, strs2, asD, shaped_list_nums, eqv_list_nums]
theorem eq_tuple_nums (S : Sto) (xs ys : List Int) : vEq S (.d (.tuple (xs.map PyData.int))) (.d (.tuple (ys.map PyData.int))) = some (.d (.bool (decide (xs = ys)))) := by
  simp [vEq, strs2, asD, shaped_tuple_nums, eqv_tuple_nums]
theorem ne_tuple_nums (S : Sto) (xs ys : List Int) : vNe S (.d (.tuple (xs.map PyData.int))) (.d (.tuple (ys.map PyData.int))) = some (.d (.bool (!decide (xs = ys)))) := by
  simp [vNe, strs2, asD, shaped_tuple_nums, eqv_tuple_nums]
theorem eq_bool (S : Sto) (a b : Bool) : vEq S (.d (.bool a)) (.d (.bool b)) = some (.d (.bool (decide (a = b)))) := by
  cases a <;> cases b <;> rfl
theorem ne_bool (S : Sto) (a b : Bool) : vNe S (.d (.bool a)) (.d (.bool b)) = some (.d (.bool (!decide (a = b)))) := by
  cases a <;> cases b <;> rfl
theorem ne_str_same (S : Sto) (x : Str) : vNe S (.d (.str x)) (.d (.str x)) = some (.d (.bool false)) := by
  have h : (x == x) = true := by first | exact beq_self_eq_true x | simp
  simp [vNe, strs2, h]
theorem eq_str_same (S : Sto) (x : Str) : vEq S (.d (.str x)) (.d (.str x)) = some (.d (.bool true)) := by
  have h : (x == x) = true := by first | exact beq_self_eq_true x | simp
  simp [vEq, strs2, h]
theorem show_bool (b : Bool) : showOk (.bool b) = true := by cases b <;> decide +kernel
theorem show_none : showOk .none = true := by decide +kernel
theorem repr_d {S : Sto} {d : D} (h : showOk d = true) : vRepr S (.d d) = some (.d (.str d.shown)) := by simp [vRepr, asD, h]
end DL
namespace DL
open PySem PySem.Spec PyProof.Rows L2
/-- a comprehension with a test, over what a plain list becomes; the store stays -/
theorem compM_filterE {α : Type} {g : MG} {t : MT} {m : ME} {σ : DL.Env} {S : Sto} (e f : α → D) (p : α → Bool) : ∀ (xs : List α) (acc : List D), acc.length + xs.length ≤ 16777216 →
    (∀ x ∈ xs, ∃ σ1, g (.d (e x)) σ = some σ1 ∧ t σ1 S = some (p x, S) ∧ (p x = true → m σ1 S = some (.d (f x), S))) →
    compM g t m (xs.map e) σ S acc = some (acc ++ (xs.filter p).map f, S)
  | [], acc, _, _ => by simp
  | d :: ds, acc, hl, hs => by
    obtain ⟨σ1, h1, h2, h3⟩ := hs d (by simp)
    simp only [List.length_cons] at hl
    cases hp : p d with
    | true =>
      have hf : fits (acc.length + 1) = true := decide_eq_true (by omega)
      have ih := compM_filterE e f p ds (acc ++ [f d]) (by simp; omega) fun d hd => hs d (by simp [hd])
      simp [h1, h2, hp, h3 hp, hf, ih]
    | false =>
      have ih := compM_filterE e f p ds acc (by omega) fun d hd => hs d (by simp [hd])
      simp [h1, h2, hp, ih]
/-- numbers as data -/
abbrev nn (xs : List Nat) : List D := xs.map fun (n : Nat) => PyData.int (n : Int)
theorem nn_eq (xs : List Nat) : nn xs = (xs.map fun (n : Nat) => (n : Int)).map PyData.int := by simp [nn]
theorem mem_cast (i : Nat) (xs : List Nat) : (i : Int) ∈ (xs.map fun (n : Nat) => (n : Int)) ↔ i ∈ xs := by
  rw [List.mem_map]
  exact ⟨fun ⟨a, h, e⟩ => by
    have : a = i := by omega
    exact this ▸ h, fun h => ⟨i, h, rfl⟩⟩
theorem in_nn (S : Sto) (i : Nat) (xs : List Nat) : vIn S (.d (.int (i : Int))) (.d (.list (nn xs))) = some (.d (.bool (decide (i ∈ xs)))) := by
  rw [nn_eq, in_ints]
  congr 3
  exact decide_eq_decide.mpr (mem_cast i xs)
theorem notIn_nn (S : Sto) (i : Nat) (xs : List Nat) : vNotIn S (.d (.int (i : Int))) (.d (.list (nn xs))) = some (.d (.bool (!decide (i ∈ xs)))) := by
  rw [nn_eq, notIn_ints]
  congr 4
  exact decide_eq_decide.mpr (mem_cast i xs)
theorem intsOf_nn (xs : List Nat) : intsOf (nn xs) = some (xs.map fun (n : Nat) => (n : Int)) := by
  rw [nn_eq]; exact intsOf_map _
theorem rangeD0 (n : Nat) : rangeD 0 n = nn (List.range n) := by
  rw [rangeD_eq]
  apply List.map_congr_left
  intro i _
  simp
theorem look_key {S : Sto} {n : Nat} {kvs : List (List Key × D)} (h : S[n]? = some (.dT kvs)) (s c : Int) : lookD S (.loc n) (.d (.tuple [.int s, .int c])) = some (valD kvs [.inl s, .inl c]) := by
  simp [lookD, h, keyT, keysD, keyD]
end DL

set_option Elab.async false
set_option linter.all false
set_option maxRecDepth 100000
set_option autoImplicit false
noncomputable section
/-! The data layer: sorted over lists, tuples, dicts; rows among which () stands; t < u; a dict written in the text. -/
namespace DL
open PySem PySem.Spec PyProof.Rows L2
/-! ### the kind of keys where some row is () -/
section
open PySem.W PySem.SeqAt
variable {prog : Program} {w : World} {A : Around} {E : Value → Shared → Prop} {s : Shared}
theorem oneLt_tup {xs ys : List PyData} {a b : Value} {as bs : List Addr} {Q : Bool → Shared → Prop} (ra : Reads s.heap a (.tuple xs) as) (rb : Reads s.heap b (.tuple ys) bs) (hal : alikeAll xs ys = true)
    (hu : A.units + min (PyData.depth (.tuple xs)) (PyData.depth (.tuple ys)) < cLine) (hq : Q (dataLt (.tuple xs) (.tuple ys)) s) : wpAny (model prog w) A (oneLt' true a b) Q E s := by
  cases ra with
  | @tuple l o vs n _ as₁ h1 h2 h3 h4 =>
    cases rb with
    | @tuple l' o' vs' n' _ bs₁ k1 k2 k3 k4 =>
      have n1 : vs.size = xs.length := by simpa using ReadsAll.length _ _ _ h4
      have n2 : vs'.size = ys.length := by simpa using ReadsAll.length _ _ _ k4
      rw [dataLt_tuple, ← firstLt_toks xs ys hal, ← n1, ← n2] at hq
      rw [oneLt'_eq]
      simp only [if_true]
      refine wpAny_bind (wpAny_cRoomFor (room_here hu) ?_)
      obtain ⟨oc, od, odat, osl⟩ := o
      obtain ⟨oc', od', odat', osl'⟩ := o'
      simp only at h2 h3 k2 k3
      subst h2 h3 k2 k3
      refine wpAny_bind (wpAny_callSpecialIfBound?_slot (T := "tuple") ⟨_, h1, rfl⟩ F.slot_tuple_lt ?_)
      refine call_meets F.slot_tuple_lt ⟨_, h1, rfl⟩ F.entry_tuple_lt (F.args_tuple_lt_2 _ _) (tuple_ltAt l l' vs vs' n n' od od' osl osl' (pairEq xs ys) (fun j => dataLt (xs.getD j .none) (ys.getD j .none))) ?_
      refine ⟨h1, k1, fun j j1 j2 => ?_, fun j j1 j2 hj => ?_, ?_⟩
      · have := eqAt_alikeAll xs ys A.in1 s vs.toList vs'.toList _ _ h4 k4 hal (room_in hu) j (by simpa using j1) (by simpa using j2)
        simpa using this
      · have := rcLt_alikeAll xs ys A.in1 s vs.toList vs'.toList _ _ h4 k4 hal (room_in hu) j (by simpa using j1) (by simpa using j2) hj
        simpa using this
      · exact wpAny_truthy_bool hq

/-- the first items, told as they are -/
theorem firsts_go {M : Model} : ∀ (vs : List Value) (ds : List D) {Q : List (Option Value) → Shared → Prop}, EachIs (fun v d => ∃ as, Reads s.heap v d as) vs ds → (∀ d ∈ ds, ∃ xs, d = .tuple xs) →
    (∀ fs : List (Option Value), fs.map Option.isSome = ds.map (fun d => match d with | .tuple (_ :: _) => true | _ => false) → Q fs s) → wpAny M A (vs.mapM firstOfTuple') Q E s
  | [], [], Q, _, _, h => by rw [List.mapM_nil]; exact wpAny_pure (h [] rfl)
  | v :: vs, d :: ds, Q, .cons ⟨as, r⟩ t, ht, h => by
    obtain ⟨xs, rfl⟩ := ht d (List.mem_cons_self ..)
    cases r with
    | @tuple a o its n _ _ ho hc hd hr =>
      rw [List.mapM_cons]
      refine wpAny_bind ?_
      rw [kas_first_eq]
      refine wpAny_bind (Looks.here (show Looks M s.heap (typeOf (.ref a)) o.cls from (Looks.ld ho).andThen .now) ?_)
      rw [hc, if_neg (by first | decide | simp)]
      refine wpAny_bind (listItems_at ho hd (wpAny_pure ?_))
      refine wpAny_bind (firsts_go vs ds (Q := fun bs s' => wpAny M A (pure (its[0]? :: bs)) Q E s') t (fun d hd => ht d (List.mem_cons_of_mem _ hd)) fun fs hf => wpAny_pure (h _ ?_))
      rw [List.map_cons, List.map_cons, hf]
      congr 1
      have hl := ReadsAll.length _ _ _ hr
      rw [← Array.getElem?_toList]
      cases xs with
      | nil =>
        have : its.toList = [] := List.eq_nil_of_length_eq_zero (by simpa using hl)
        rw [this]; rfl
      | cons x xs =>
        cases q : its.toList with
        | nil => rw [q] at hl; simp at hl
        | cons y ys => rfl
theorem sortsAt_rows {vs : List Value} {ds : List D} (e : EachIs (fun v d => ∃ as, Reads s.heap v d as) vs ds) (hal : AllAlike ds) (ht : ∀ d ∈ ds, ∃ xs, d = .tuple xs) (hn : PyData.tuple [] ∈ ds) (hu : ∀ d, d ∈ ds → A.units + d.depth < cLine) : SortsAt prog w A s (dataKind s.heap ds) vs := by
  have room : ∀ {d d' : PyData}, d ∈ ds → A.units + min d.depth d'.depth < cLine := fun {d d'} hd => Nat.lt_of_le_of_lt (Nat.add_le_add_left (Nat.min_le_left _ _) _) (hu d hd)
  have hlt : ∀ f : Bool, H.LtAt prog w A s (dataKind s.heap ds) (if f = true then oneType' else general') := fun f E x y a b Q ha hb hq => by
    obtain ⟨d, as, hd, ra, rfl⟩ := dataKind_inv ha
    obtain ⟨d', as', hd', rb, rfl⟩ := dataKind_inv hb
    have hdd := hal d hd d' hd'
    have hroom := room (d' := d') hd
    obtain ⟨xs, rfl⟩ := ht d hd
    obtain ⟨ys, rfl⟩ := ht d' hd'
    cases f with
    | true => exact oneLt_tup ra rb (by simpa [alike] using hdd) hroom hq
    | false => exact oneLt_alike (f := false) (fun z => by cases z) ra rb hdd (by intro z; cases z) hroom hq
  refine ⟨fun v hv => ?_, ?_⟩
  · obtain ⟨d, hd, as, r⟩ := e.left v hv
    exact ⟨_, dataKind_some hal hd r⟩
  · refine ⟨_, hlt (match ds with | .tuple [] :: _ => true | _ => false), fun h2 E Q hq => ?_⟩
    rw [kat_kind_eq, List.mapM_toArray, map_eq_pure_bind]
    refine wpAny_bind (wpAny_bind (firsts_go vs ds e ht fun fs hf => wpAny_pure ?_))
    have hlen : fs.length = ds.length := by simpa using congrArg List.length hf
    have hnot : ¬ (fs.toArray.all fun x => x.isSome) = true := fun z => by
      have z : (fs.all fun x => x.isSome) = true := by simpa using z
      have z2 : (fs.map Option.isSome).all id = true := by simpa [List.all_map, Function.comp_def] using z
      rw [hf] at z2
      have := List.all_eq_true.mp z2 false (List.mem_map.mpr ⟨_, hn, rfl⟩)
      cases this
    rw [if_neg hnot]
    cases ds with
    | nil => simp at hn
    | cons d₀ ds₀ =>
      cases fs with
      | nil => simp at hlen
      | cons f₀ fs₀ =>
        obtain ⟨xs, rfl⟩ := ht d₀ (List.mem_cons_self ..)
        have hf0 : f₀.isSome = (match PyData.tuple xs with | PyData.tuple (_ :: _) => true | _ => false) := by
          simp only [List.map_cons, List.cons.injEq] at hf
          exact hf.1
        cases xs with
        | cons x xs =>
          have h1 : (((f₀ :: fs₀).toArray)[0]?.bind id).isSome = true := by simpa using hf0
          rw [if_pos h1]
          exact wpAny_pure hq
        | nil =>
          have h1 : ¬ (((f₀ :: fs₀).toArray)[0]?.bind id).isSome = true := by simp at hf0 ⊢; exact hf0
          rw [if_neg h1, oneTypeOnly'_eq, List.mapM_toArray, map_eq_pure_bind]
          have hT : ∀ v ∈ vs, Looks (model prog w) s.heap (typeOf v) (Value.type "tuple") := fun v hv => by
            obtain ⟨d, hd, as, r⟩ := e.left v hv
            obtain ⟨ys, rfl⟩ := ht d hd
            exact looks_reads r
          refine wpAny_bind (wpAny_bind (wpAny_bind (kas_mapM (r := Value.type "tuple") _ (fun v hv Q' hq => (hT v hv).here hq) (wpAny_pure ?_))))
          have hall : ((List.map (fun _ => Value.type "tuple") vs).toArray.all fun x => x == Value.type "tuple") = true := by
            simp only [List.all_toArray, List.all_map, List.all_eq_true]
            intro _ _
            rfl
          have h0 : (List.map (fun _ => Value.type "tuple") vs).toArray[0]? = some (Value.type "tuple") := by
            cases vs with
            | nil => simp at h2
            | cons v vs => simp
          rw [h0]
          simp only [hall, if_true]
          exact wpAny_pure (wpAny_pure hq)
end
/-! ### sorted -/
def sortOk (ds : List D) : Bool := says (PySem.W.AllAlike ds ∧ (PySem.W.Sortable ds ∨ (∀ d ∈ ds, ∃ xs, d = .tuple xs) ∧ PyData.tuple [] ∈ ds) ∧ ∀ d ∈ ds, d.depth ≤ 64)
def sortD (ds : List D) : List D := ds.mergeSort (PySem.W.dataLe false id)
def vSorted (S : Sto) (x : W) : Option W := (match keysOf x with
  | some ds => some ds
  | none => seqOf S x).bind fun ds => if sortOk ds = true then some (.d (.list (sortD ds))) else none
section
variable {X : Cx}
theorem each_of {ρ : Rho} {H : Hp} : ∀ {ds : List D} {vs : List V} {us : List Value}, RepL ρ H ds vs → Vals vs us → PySem.W.EachIs (fun (v : Value) (d : D) => ∃ u : V, RelV u v ∧ Rep ρ H d u) us ds
  | [], _, _, r, v => by cases r; cases v; exact .nil
  | d :: ds, _, _, r, v => by
    cases r with
    | cons r1 r2 =>
      cases v with
      | cons v1 v2 => exact .cons ⟨_, v1, r1⟩ (each_of r2 v2)
theorem of_each {ρ : Rho} {H : Hp} : ∀ {ds : List D} {us : List Value}, PySem.W.EachIs (fun (v : Value) (d : D) => ∃ u : V, RelV u v ∧ Rep ρ H d u) us ds → ∃ vs, Vals vs us ∧ RepL ρ H ds vs
  | _, _, .nil => ⟨[], .nil, .nil⟩
  | _, _, .cons ⟨u, h1, h2⟩ t => by
    obtain ⟨vs, h3, h4⟩ := of_each t
    exact ⟨u :: vs, .cons h1 h3, .cons h2 h4⟩
theorem sortsAt_of {prog : Program} {w : World} {A : Around} {s : Shared} {vs : List Value} {ds : List D} (e : PySem.W.EachIs (fun v d => ∃ as, Reads s.heap v d as) vs ds) (hf : sortOk ds = true) (hu : A.units + 64 < cLine) : PySem.W.SortsAt prog w A s (PySem.W.dataKind s.heap ds) vs := by
  obtain ⟨f1, f2, f3⟩ := says_of hf
  rcases f2 with f2 | ⟨f2, f4⟩
  · exact PySem.W.SortsAt.data e f1 f2 fun d hd => by have := f3 d hd; omega
  · exact sortsAt_rows e f1 f2 f4 fun d hd => by have := f3 d hd; omega
theorem each_len {α β : Type} {R : α → β → Prop} : ∀ {as : List α} {bs : List β}, PySem.W.EachIs R as bs → as.length = bs.length
  | _, _, .nil => rfl
  | _, _, .cons _ t => by simp [each_len t]
/-- what sorted does with what it was handed, once that is collected -/
theorem sorted_go (hu : X.A.units + 70 < cLine) {pins : List (Addr × Obj)} {s : Shared} {σ : L2.St} {H : Hp} {u : Value} {ρ : Rho} {S : Sto} {ds : List D} {Q : VK} (I : Inv X pins σ H s) (hs : SRel (kwOf X) ρ H S) (hf : sortOk ds = true) (hz : ds.length ≤ sizeLine)
    (coll : ∀ (R : List Value → Shared → Prop) (E : Value → Shared → Prop), (∀ (h' : Heap) (tk : Nat) (acc : List Value), (∀ b o, s.heap.get? b = some o → h'.get? b = some o) → PySem.W.EachIs (fun (v : Value) (d : D) => ∃ u : V, RelV u v ∧ Rep ρ H d u) acc ds → R acc { s with heap := h', toks := tk }) → wpAny (model X.prog X.w) X.A.in1 (collect u) R E s)
    (q : ∀ ρ' z H', Ext ρ H ρ' H' → SRel (kwOf X) ρ' H' S → RelW (kwOf X) ρ' H' (.d (.list (sortD ds))) z → Q z H') :
    wpAny (model X.prog X.w) X.A (call (.builtin "sorted") [u]) (EP X pins σ Q) X.xe s := by
  refine Calls.call_function_entry PyProof.Rows.kind_sorted PyProof.Rows.plain_sorted PyProof.Rows.entry_sorted (PyProof.Rows.args_sorted1 _) ?_
  unfold Builtin.«sorted»
  refine wpAny_bind (m := checkCount "sorted" 1 1 _) (wpAny_pure ?_)
  refine wpAny_bind (coll _ _ fun h' tk acc hk e => ?_)
  have hal : acc.length = ds.length := each_len e
  have I1 : Inv X pins σ H { s with heap := h', toks := tk } := I.kept hk
  refine wpAny_bind (wpAny_newList ?_ (by rw [hal]; exact hz))
  have hoL : (h'.push (seqObj "list" acc.toArray 0)).get? h'.objs.size = some (seqObj "list" acc.toArray 0) := Heap.get?_push_size _ rfl
  show wpAny _ _ _ _ _ { s with heap := h'.push (seqObj "list" acc.toArray 0), toks := tk }
  have er : PySem.W.EachIs (fun (v : Value) (d : D) => ∃ as, Reads h' v d as) acc ds := e.mono fun v d ⟨u, g1, g2⟩ => Dp.reads I1 d u v (Rep.dp g2) g1
  have er2 : PySem.W.EachIs (fun (v : Value) (d : D) => ∃ as, Reads (PySem.W.sortingHeap (h'.push (seqObj "list" acc.toArray 0)) h'.objs.size acc) v d as) acc ds := er.mono fun v d ⟨as, r⟩ => ⟨as, PyProof.Rows.Reads.keeps (fun b o eb => PySem.W.sortingHeap_old (Nat.ne_of_lt (Heap.lt_size eb)) (Heap.get?_push_of_some _ eb)) r⟩
  have hso := sortsAt_of (prog := X.prog) (w := X.w) (A := X.A.in1.in1) (s := { s with heap := PySem.W.sortingHeap (h'.push (seqObj "list" acc.toArray 0)) h'.objs.size acc, toks := tk }) er2 hf (by show X.A.units + 1 + 1 + 64 < cLine; omega)
  obtain ⟨f1, _, _⟩ := says_of hf
  have hm : ds.map id = ds := List.map_id ds
  have hv := PySem.W.sortVals_data (R := fun (v : Value) (d : D) => ∃ u : V, RelV u v ∧ Rep ρ H d u) (enc := id) false e er2 (by rw [hm]; exact f1)
  rw [hm] at hv
  obtain ⟨us, g1, g2⟩ := of_each hv
  have hul : us.length = ds.length := by
    rw [← g2.length]
    exact List.length_mergeSort _
  refine wpAny_bind (wpAny_holding (wpAny_call_entry PyProof.Rows.slot_list_sort ⟨_, hoL, rfl⟩ PyProof.Rows.entry_list_sort
    (PySem.W.list_sort_vals (κ := PySem.W.dataKind (PySem.W.sortingHeap (h'.push (seqObj "list" acc.toArray 0)) h'.objs.size acc) ds) (s := { s with heap := h'.push (seqObj "list" acc.toArray 0), toks := tk }) hoL hso (by rw [hal]; exact hz) ⟨_, rfl, ?_⟩) (PyProof.Rows.args_list_sort _)))
  obtain ⟨e', he'⟩ := PyProof.Rows.sortedHeap_at (vs := acc) (out := (PySem.W.sortVals (PySem.W.dataKind (PySem.W.sortingHeap (h'.push (seqObj "list" acc.toArray 0)) h'.objs.size acc) ds) false acc acc).toArray) hoL
  have hp : H h'.objs.size = none := I1.hok.fresh (Nat.le_refl _)
  refine wpAny_pure ⟨_, rfl, .ref h'.objs.size, upd H h'.objs.size (.lst us), I1.laid (t' := tk) (fun b u eb => ?_) (Nat.le_refl _)
    (show ObjOk X.prog X.w _ _ _ (.lst us) from ⟨by rw [hul]; exact hz, _, e', g1, he'⟩), rfl, q ρ _ _ (Ext.new hp) (hs.new hp) (.lst upd_same (hs.fresh hp) (g2.ext (Ext.new hp)))⟩
  have hb : b < h'.objs.size := Heap.lt_size eb
  rw [PyProof.Rows.sortedHeap_old (Nat.ne_of_lt hb) (by rw [size_push']; exact Nat.lt_succ_of_lt hb)]
  exact Heap.get?_push_of_some _ eb
theorem each_at {α β : Type} {R : α → β → Prop} : ∀ {as : List α} {bs : List β}, as.length = bs.length → (∀ (i : Nat) (a : α) (b : β), as[i]? = some a → bs[i]? = some b → R a b) → PySem.W.EachIs R as bs
  | [], [], _, _ => .nil
  | a :: as, b :: bs, hl, h => .cons (h 0 a b rfl rfl) (each_at (by simpa using hl) fun i x y hx hy => h (i + 1) x y (by simpa using hx) (by simpa using hy))
  | [], _ :: _, hl, _ => by simp at hl
  | _ :: _, [], hl, _ => by simp at hl
theorem RepKV.atV {κ : Type} {ρ : Rho} {H : Hp} {kvs : List (κ × D)} {us : List (κ × V)} (h : RepKV ρ H kvs us) : kvs.map (·.1) = us.map (·.1) := by
  induction h with
  | nil => rfl
  | cons r _ ih => simp [ih]
theorem tup_fr {ρ : Rho} {H : Hp} {S : Sto} (hs : SRel (kwOf X) ρ H S) {a : Addr} {xs : List V} (h : H a = some (.tup xs)) : ρ.Fr a := by
  refine ⟨fun z => ?_, fun z => ?_⟩
  · obtain ⟨i, q⟩ := List.mem_iff_getElem?.mp z
    obtain ⟨o, _, h2⟩ := hs.obj i a q
    cases o with
    | lst _ => obtain ⟨_, h3, _⟩ := h2; rw [h] at h3; cases h3
    | dK _ => obtain ⟨_, h3, _⟩ := h2; rw [h] at h3; cases h3
    | dT _ => obtain ⟨_, h3, _⟩ := h2; rw [h] at h3; cases h3
    | dN _ => obtain ⟨_, h3, _⟩ := h2; rw [h] at h3; cases h3
    | ins _ _ => obtain ⟨_, _, h3, _⟩ := h2; rw [h] at h3; cases h3
    | dead => exact h2
  · obtain ⟨⟨ys, h3⟩, _⟩ := hs.blk a z
    rw [h] at h3; cases h3
theorem paired_at {α β : Type} {R : α → β → Prop} : ∀ {as : List α} {bs : List β}, Paired R as bs → ∀ (i : Nat) (a : α) (b : β), as[i]? = some a → bs[i]? = some b → R a b
  | _, _, .nil, i, a, b, h, _ => by simp at h
  | _, _, .cons h t, i, a, b, h1, h2 => by
    cases i with
    | zero => simp at h1 h2; subst h1 h2; exact h
    | succ i => exact paired_at t i a b (by simpa using h1) (by simpa using h2)
theorem c_sorted (hc : X.calm = true) (hu : X.A.units + 70 < cLine) : CallD X (.builtin "sorted") (pure1 vSorted) := call1_of fun pins s σ H v u Q ρ S x w I r hs rx hg q => by
  unfold vSorted at hg
  obtain ⟨ds, h1, hg⟩ := Option.bind_eq_some_iff.mp hg
  obtain ⟨hf, hg⟩ := some_if hg
  cases hg
  split at h1
  · rename_i ds' hk
    cases h1
    unfold keysOf at hk
    split at hk
    · rename_i kvs
      cases hk
      obtain ⟨a, us, rfl, fr, hd, _, kv⟩ := rx
      obtain rfl : u = Value.ref a := r
      obtain ⟨z, lo, vs, rel, dd⟩ := dk_rd I.hok hd
      obtain ⟨es, ep, hraw, hsz, hkey⟩ := dd.raw
      have hl : kvs.length = vs.length := by rw [kv.length]; exact Paired.length rel
      refine sorted_go hu I hs hf (by rw [List.length_map, kv.length]; exact z) (fun R E k => ?_) fun ρ' z' H' e1 s1 r1 => q ρ' z' H' e1 s1 r1
      refine PySem.W.kdu_collect (A := X.A.in1) (KdlSrc.rawDict lo) (I.ok.hd hc) hraw (by rw [hsz, ← hl, kv.length]; exact z) fun h' tk acc hkk hacc => k h' tk acc.toList hkk (each_at (by rw [Array.length_toList, hacc.1, List.length_map, hl, hsz]) fun i v d hv hd2 => ?_)
      obtain ⟨hi, rfl⟩ := hacc.2 i v (by rw [← Array.getElem?_toList]; exact hv)
      rw [List.getElem?_map] at hd2
      obtain ⟨kv1, h3, rfl⟩ := Option.map_eq_some_iff.mp hd2
      have hiv : i < vs.length := by omega
      obtain ⟨k0, x0, e4⟩ : ∃ k0 x0, vs[i]? = some (k0, x0) := ⟨vs[i].1, vs[i].2, by simp [hiv]⟩
      obtain ⟨g1, _⟩ := hkey i hi _ _ e4
      have e5 := congrArg (fun l => l[i]?) kv.atV
      have e6 : us.map (·.1) = vs.map (·.1) := rel.keys
      rw [e6] at e5
      simp only [List.getElem?_map, h3, e4, Option.map_some, Option.some.injEq] at e5
      rw [← e5] at g1
      refine ⟨kV kv1.1, ?_, kD_rep _⟩
      rcases keyIs_shape (show keyIs kv1.1 es[i].key = true from g1) with ⟨j, t, ek, ev⟩ | ⟨y, t, ek, ev⟩
      · rw [ek, ev]; exact ⟨t, rfl⟩
      · rw [ek, ev]; exact ⟨t, rfl⟩
    · rename_i kvs
      cases hk
      obtain ⟨a, us, rfl, fr, hd, _, kv⟩ := rx
      obtain rfl : u = Value.ref a := r
      obtain ⟨z, lo, xs, rel, dd⟩ := dt_rd I.hok hd
      obtain ⟨es, ep, hraw, hsz, hkey⟩ := dd.raw
      have hl : us.length = xs.length := Paired.length rel
      refine sorted_go hu I hs hf (by rw [List.length_map, kv.length]; exact z) (fun R E k => ?_) fun ρ' z' H' e1 s1 r1 => q ρ' z' H' e1 s1 r1
      refine PySem.W.kdu_collect (A := X.A.in1) (KdlSrc.rawDict lo) (I.ok.hd hc) hraw (by rw [hsz, ← hl]; exact z) fun h' tk acc hkk hacc => k h' tk acc.toList hkk (each_at (by rw [Array.length_toList, hacc.1, List.length_map, kv.length, hl, hsz]) fun i v d hv hd2 => ?_)
      obtain ⟨hi, rfl⟩ := hacc.2 i v (by rw [← Array.getElem?_toList]; exact hv)
      rw [List.getElem?_map] at hd2
      obtain ⟨kv1, h3, rfl⟩ := Option.map_eq_some_iff.mp hd2
      obtain ⟨y, hy, g1, _, _⟩ := hkey i hi
      have hiu : i < us.length := by rw [hl, ← hsz]; exact hi
      have e4 : us[i]? = some us[i] := by simp [hiu]
      obtain ⟨p1, p2, _⟩ := paired_at rel i _ _ e4 hy
      have e5 := congrArg (fun l => l[i]?) kv.atV
      simp only [List.getElem?_map, h3, e4, Option.map_some, Option.some.injEq] at e5
      rw [← e5] at p2
      exact ⟨.ref y.2.1, g1, .tup p2 (tup_fr hs p2) (kDs_rep _)⟩
    · cases hk
  · obtain ⟨a, vs, rfl, hq, hr⟩ := seqOf_rel hs rx h1
    obtain rfl : u = Value.ref a := r
    rcases hq with hq | hq
    · obtain ⟨its, rv, hl, hz⟩ := I.list hq
      obtain ⟨o, ho, hcl, n, hdt⟩ := hl.isList
      refine sorted_go hu I hs hf (by rw [hr.length]; exact hz) (fun R E k => ?_) fun ρ' z' H' e1 s1 r1 => q ρ' z' H' e1 s1 r1
      refine wpAny_collect_seq a (.inl rfl) ho hcl hdt (fun h' hk => k h' s.toks _ hk ?_) (by rw [List.size_toArray, ← rv.length]; exact hz)
      simpa using each_of hr rv
    · obtain ⟨its, rv, ⟨o, ho, hcl, n, hdt⟩, hz⟩ := I.tuple hq
      refine sorted_go hu I hs hf (by rw [hr.length]; exact hz) (fun R E k => ?_) fun ρ' z' H' e1 s1 r1 => q ρ' z' H' e1 s1 r1
      refine wpAny_collect_seq a (.inr rfl) ho hcl hdt (fun h' hk => k h' s.toks _ hk ?_) (by rw [List.size_toArray, ← rv.length]; exact hz)
      simpa using each_of hr rv
end
/-! ### sorted(set(xs)), xs a list of tuples of ints -/
def nats : D → Option (List Int)
  | .tuple ds => intsOf ds
  | _ => none
def rowsI : List D → Option (List (List Int))
  | [] => some []
  | d :: ds => (nats d).bind fun k => (rowsI ds).map fun ks => k :: ks
def ssOk (ks : List (List Int)) : Bool := says (ks.length < 64 ∧ ∃ (d : Nat) (B : Int), 1 ≤ d ∧ ∀ k ∈ ks, k.length = d ∧ TS.Bd B k)
def insR (x : List Int) : List (List Int) → List (List Int)
  | [] => [x]
  | y :: r => if x = y then y :: r else if x < y then x :: y :: r else y :: insR x r
def ssR (ks : List (List Int)) : List (List Int) := ks.foldr insR []
def rowD (k : List Int) : D := .tuple (k.map PyData.int)
def vSortedSet (S : Sto) (x : W) : Option W := (asL S x).bind fun ds => (rowsI ds).bind fun ks => if ssOk ks = true then some (.d (.list ((ssR ks).map rowD))) else none
theorem rowsI_eq : ∀ {ds : List D} {ks : List (List Int)}, rowsI ds = some ks → ds = ks.map rowD
  | [], _, h => by cases h; rfl
  | d :: ds, _, h => by
    obtain ⟨k, h1, h2⟩ := Option.bind_eq_some_iff.mp h
    rw [Option.map_eq_some_iff] at h2
    obtain ⟨ks, h3, rfl⟩ := h2
    rw [rowsI_eq h3]
    unfold nats at h1
    split at h1
    · rw [intsOf_eq h1]; rfl
    · cases h1
@[simp] theorem rowsI_map : ∀ ks : List (List Int), rowsI (ks.map rowD) = some ks
  | [] => rfl
  | k :: ks => by simp [rowsI, nats, rowD, rowsI_map ks]
theorem mem_insR {x y : List Int} : ∀ {r : List (List Int)}, y ∈ insR x r ↔ y = x ∨ y ∈ r
  | [] => by simp [insR]
  | z :: r => by
    unfold insR
    split
    · rename_i h; subst h; simp
    · split
      · simp
      · simp only [List.mem_cons, mem_insR (r := r)]
        constructor
        · rintro (h | h | h)
          · exact .inr (.inl h)
          · exact .inl h
          · exact .inr (.inr h)
        · rintro (h | h | h)
          · exact .inr (.inl h)
          · exact .inl h
          · exact .inr (.inr h)
theorem mem_ssR {y : List Int} : ∀ {ks : List (List Int)}, y ∈ ssR ks ↔ y ∈ ks
  | [] => by simp [ssR]
  | k :: ks => by
    show y ∈ insR k (ssR ks) ↔ _
    rw [mem_insR, mem_ssR]; simp
theorem ints_lt_tri : ∀ (x y : List Int), x < y ∨ x = y ∨ y < x
  | [], [] => .inr (.inl rfl)
  | [], _ :: _ => .inl (List.nil_lt_cons _ _)
  | _ :: _, [] => .inr (.inr (List.nil_lt_cons _ _))
  | a :: x, b :: y => by
    rcases Int.lt_trichotomy a b with h | h | h
    · exact .inl (List.cons_lt_cons_iff.mpr (.inl h))
    · subst h
      rcases ints_lt_tri x y with h | h | h
      · exact .inl (List.cons_lt_cons_iff.mpr (.inr ⟨rfl, h⟩))
      · exact .inr (.inl (by rw [h]))
      · exact .inr (.inr (List.cons_lt_cons_iff.mpr (.inr ⟨rfl, h⟩)))
    · exact .inr (.inr (List.cons_lt_cons_iff.mpr (.inl h)))
theorem ins_sorted {x : List Int} : ∀ {r : List (List Int)}, r.Pairwise (· < ·) → (insR x r).Pairwise (· < ·)
  | [], _ => by simp [insR]
  | y :: r, h => by
    unfold insR
    split
    · exact h
    · rename_i hne
      split
      · rename_i hlt
        refine List.pairwise_cons.mpr ⟨fun z hz => ?_, h⟩
        rcases List.mem_cons.mp hz with rfl | hz
        · exact hlt
        · exact List.lt_trans hlt ((List.pairwise_cons.mp h).1 z hz)
      · rename_i hnl
        obtain ⟨h1, h2⟩ := List.pairwise_cons.mp h
        refine List.pairwise_cons.mpr ⟨fun z hz => ?_, ins_sorted h2⟩
        rcases mem_insR.mp hz with rfl | hz
        · rcases ints_lt_tri y z with g | g | g
          · exact g
          · exact absurd g.symm hne
          · exact absurd g hnl
        · exact h1 z hz
theorem ssR_sorted : ∀ ks : List (List Int), (ssR ks).Pairwise (· < ·)
  | [] => .nil
  | k :: ks => ins_sorted (ssR_sorted ks)
theorem sorted_uniq : ∀ {as bs : List (List Int)}, as.Pairwise (· < ·) → bs.Pairwise (· < ·) → (∀ x, x ∈ as ↔ x ∈ bs) → as = bs
  | [], [], _, _, _ => rfl
  | [], b :: bs, _, _, h => absurd ((h b).mpr (by simp)) (by simp)
  | a :: as, [], _, _, h => absurd ((h a).mp (by simp)) (by simp)
  | a :: as, b :: bs, h1, h2, h => by
    obtain ⟨p1, p2⟩ := List.pairwise_cons.mp h1
    obtain ⟨q1, q2⟩ := List.pairwise_cons.mp h2
    have e : a = b := by
      rcases List.mem_cons.mp ((h a).mp (by simp)) with z | z
      · exact z
      · rcases List.mem_cons.mp ((h b).mpr (by simp)) with w | w
        · exact w.symm
        · exact absurd (List.lt_trans (q1 a z) (p1 b w)) (List.lt_irrefl b)
    subst e
    rw [sorted_uniq p2 q2 fun x => ?_]
    have := h x
    simp only [List.mem_cons] at this
    constructor
    · intro hx
      rcases this.mp (.inr hx) with z | z
      · subst z; exact absurd (p1 x hx) (List.lt_irrefl x)
      · exact z
    · intro hx
      rcases this.mpr (.inr hx) with z | z
      · subst z; exact absurd (q1 x hx) (List.lt_irrefl x)
      · exact z
theorem code_iff {B : Int} : ∀ {x y : List Int}, x.length = y.length → TS.Bd B x → TS.Bd B y → (x < y ↔ TS.code B x < TS.code B y)
  | [], [], _, _, _ => by simp [TS.code]
  | [], _ :: _, h, _, _ => by simp at h
  | _ :: _, [], h, _, _ => by simp at h
  | a :: x, b :: y, h, hx, hy => by
    have hl : x.length = y.length := by simpa using h
    rw [List.cons_lt_cons_iff]
    rcases Int.lt_trichotomy a b with c | c | c
    · exact ⟨fun _ => TS.code_lt hl hx.tail hy.tail c, fun _ => .inl c⟩
    · subst c
      rw [TS.code_same hl, ← code_iff hl hx.tail hy.tail]
      constructor
      · rintro (z | ⟨_, z⟩)
        · omega
        · exact z
      · exact fun z => .inr ⟨rfl, z⟩
    · have := TS.code_lt hl.symm hy.tail hx.tail c
      constructor
      · rintro (z | ⟨z, _⟩) <;> omega
      · intro z; omega
section
variable {X : Cx} {e : Expr}
theorem reps_rows {K : PySem.W.Frag} {ρ : Rho} {H : Hp} : ∀ {ks : List (List Int)} {vs : List V}, RepL ρ H (ks.map rowD) vs → ∃ ps : List (Addr × List Int), vs = ps.map (fun p => V.ref p.1) ∧ ps.map (·.2) = ks ∧ ∀ p ∈ ps, H p.1 = some (.tup (p.2.map V.int)) ∧ ρ.Fr p.1
  | [], _, h => by cases h; exact ⟨[], rfl, rfl, fun p hp => by cases hp⟩
  | k :: ks, _, h => by
    cases h with
    | cons r t =>
      obtain ⟨ps, h1, h2, h3⟩ := reps_rows (K := K) t
      obtain ⟨a, vs, rfl, g1, g2, g3⟩ := rep_tup r
      have := g3.ints
      subst this
      exact ⟨(a, k) :: ps, by rw [h1]; rfl, by rw [← h2]; rfl, fun p hp => by
        rcases List.mem_cons.mp hp with rfl | hp
        · exact ⟨g1, g2⟩
        · exact h3 p hp⟩
theorem of_rows {ρ : Rho} {H : Hp} : ∀ ps : List (Addr × List Int), (∀ p ∈ ps, H p.1 = some (.tup (p.2.map V.int)) ∧ ρ.Fr p.1) → RepL ρ H ((ps.map (·.2)).map rowD) (ps.map fun p => V.ref p.1)
  | [], _ => .nil
  | p :: ps, h => .cons (.tup (h p (by simp)).1 (h p (by simp)).2 (RepL.ofInts p.2)) (of_rows ps fun q hq => h q (by simp [hq]))
theorem d_sortedSet {m : ME} {p1 p2 pos1 pos2 : Pos} (hc : X.calm = true) (hu : X.A.units + 64 < cLine) (hg : Gl X "sorted") (hm : X.mg "sorted" = none) (hg2 : Gl X "set") (hm2 : X.mg "set" = none) (he : PD X e m)
    (ht : starEach [e] X.env = (false, eval e X.env) :: starEach [] X.env := by rfl) (hpl : (backTo pos2 (starEach [] X.env)).any (·.1) = false := by rfl)
    (ht2 : starEach [Expr.Call (.Name "set" p2) [e] [] pos2] X.env = (false, eval (.Call (.Name "set" p2) [e] [] pos2) X.env) :: starEach [] X.env := by rfl) (hpl2 : (backTo pos1 (starEach [] X.env)).any (·.1) = false := by rfl) :
    PD X (.Call (.Name "sorted" p1) [.Call (.Name "set" p2) [e] [] pos2] [] pos1) (mCall (pure1 vSortedSet) (mCons m mNil)) :=
  peImp (pe_callB (cr_sortedT hc) hg hm (by rfl) (pa_cons (pe_callTy (cr_setOfT hc hu) hg2 hm2 (by rfl) (pa_cons he pa_nil ht) (by decide) (by decide) ht hpl) pa_nil ht2) (by decide) (by decide) ht2 hpl2) fun σ H Q ⟨ρ, σd, S, w, S', hs, hE, hmm, q⟩ => by
    obtain ⟨⟨ws, S1⟩, h1, hmm⟩ := Option.bind_eq_some_iff.mp hmm
    obtain ⟨⟨w1, S2⟩, h2, h1⟩ := Option.bind_eq_some_iff.mp h1
    rw [Option.map_eq_some_iff] at h1
    obtain ⟨⟨ws2, S3⟩, h3, h4⟩ := h1
    cases h3
    cases h4
    dsimp only at hmm
    have hmm' : (vSortedSet S2 w1).map (fun r => (r, S2)) = some (w, S') := hmm
    rw [Option.map_eq_some_iff] at hmm'
    obtain ⟨w2, h5, h6⟩ := hmm'
    cases h6
    obtain ⟨ds, h7, h5⟩ := Option.bind_eq_some_iff.mp h5
    obtain ⟨ks, h8, h5⟩ := Option.bind_eq_some_iff.mp h5
    obtain ⟨hok, h5⟩ := some_if h5
    cases h5
    obtain ⟨hlen, d, B, hd, hB⟩ := says_of hok
    refine ⟨ρ, σd, S, w1, S', hs, hE, h2, fun ρ1 v H1 e1 s1 r1 => ?_⟩
    obtain ⟨a, vs, rfl, hq, hr⟩ := asL_rel s1 r1 h7
    have hds := rowsI_eq h8
    subst hds
    obtain ⟨ps, rfl, hps, hp3⟩ := reps_rows (K := X.K) hr
    have hinv : ∀ p ∈ ps, p.2 ∈ ks := fun p hp => by rw [← hps]; exact List.mem_map.mpr ⟨p, hp, rfl⟩
    refine ⟨a, ps, rfl, hq, fun p hp => SqT.of (hp3 p hp).1, ?_, fun t L ht hL1 hL2 => ?_⟩
    · have := congrArg List.length hps
      rw [List.length_map] at this
      omega
    · have hg1 : ∀ p ∈ L, (upd H1 t (SetTO X.prog X.w t L)) p.1 = some (.tup (p.2.map V.int)) := fun p hp => by
        have := (hp3 p (hL1 p hp)).1
        rw [upd_ne (ne_of_none this ht)]
        exact this
      refine ⟨t, L, d, B, rfl, upd_same, fun p hp => SqT.of (hg1 p hp), hd, fun p hp => hB _ (hinv p (hL1 p hp)), fun L' p pm nd hl pw hp => ?_⟩
      have hsub : ∀ x ∈ L', x ∈ ps := fun x hx => hL1 x (pm.mem_iff.mp hx)
      have hkey : L'.map (·.2) = ssR ks := by
        refine sorted_uniq ?_ (ssR_sorted ks) fun x => ?_
        · refine List.pairwise_map.mpr ?_
          have nd' : L'.Pairwise (fun q r => q.2 ≠ r.2) := List.pairwise_map.mp nd
          refine List.Pairwise.imp_of_mem (fun {x y} hx hy h => ?_) (pw.and nd')
          obtain ⟨b1, b2⟩ := hB _ (hinv x (hsub x hx))
          obtain ⟨c1, c2⟩ := hB _ (hinv y (hsub y hy))
          have hl2 : x.2.length = y.2.length := by rw [b1, c1]
          rcases ints_lt_tri x.2 y.2 with g | g | g
          · exact g
          · exact absurd g h.2
          · have := (code_iff hl2.symm c2 b2).mp g
            have := h.1
            omega
        · rw [mem_ssR]
          constructor
          · intro hx
            obtain ⟨y, hy, rfl⟩ := List.mem_map.mp hx
            exact hinv y (hsub y hy)
          · intro hx
            rw [← hps] at hx
            obtain ⟨y, hy, rfl⟩ := List.mem_map.mp hx
            obtain ⟨z, hz, e⟩ := List.mem_map.mp (hL2 y hy)
            exact List.mem_map.mpr ⟨z, pm.mem_iff.mpr hz, e⟩
      have e2 : Ext ρ1 H1 ρ1 (upd H1 t (SetTO X.prog X.w t L)) := Ext.new ht
      have e3 := Ext.new (ρ := ρ1) (H := upd H1 t (SetTO X.prog X.w t L)) (o := .lst (L'.map fun q => V.ref q.1)) hp
      refine q ρ1 _ _ ((e1.trans e2).trans e3) ((s1.new ht).new hp) (.lst upd_same ((s1.new ht).fresh hp) ?_)
      rw [← hkey]
      refine of_rows L' fun x hx => ?_
      obtain ⟨g1, g2⟩ := hp3 x (hsub x hx)
      exact (e2.trans e3).at g1 g2
end
/-! ### t < u, tuples of ints; a dict written in the text -/
def vLtR : G2 := fun S x y => match x, y with
  | .d (.tuple as), .d (.tuple bs) => (intsOf as).bind fun ns => (intsOf bs).map fun ms => .d (.bool (HT.lexLt ns ms))
  | .d (.int i), .d (.int j) => some (.d (.bool (decide (i < j))))
  | _, _ => none
section
variable {X : Cx} {e : Expr}
theorem o_ltR (hu : X.A.units < cLine) : OpD X (compareOp .Lt) vLtR := by
  rintro pins s σ H v u v' u' Q I r1 r2 ⟨ρ, S, x, y, w, hs, rx, ry, hg, q⟩
  unfold vLtR at hg
  split at hg
  · obtain ⟨ns, h1, hg⟩ := Option.bind_eq_some_iff.mp hg
    rw [Option.map_eq_some_iff] at hg
    obtain ⟨ms, h2, rfl⟩ := hg
    rw [intsOf_eq h1] at rx
    rw [intsOf_eq h2] at ry
    obtain ⟨a, vs, rfl, g1, _, g3⟩ := rep_tup rx
    obtain ⟨b, us, rfl, k1, _, k3⟩ := rep_tup ry
    have := g3.ints
    subst this
    have := k3.ints
    subst this
    exact op_ltT hu pins s σ H _ _ _ _ Q I r1 r2 ⟨a, b, ns, ms, rfl, rfl, SqT.of g1, SqT.of k1, q ρ _ H .refl hs (.bl _)⟩
  · cases hg
    cases rx; cases ry
    exact op_lt pins s σ H _ _ _ _ Q I r1 r2 ⟨_, _, rfl, rfl, q ρ _ H .refl hs (.bl _)⟩
  · cases hg
/-- the pairs: texts or ints as keys -/
abbrev MPr := Env → Sto → Option (List (Key × D) × Sto)
@[simp] def mPr0 : MPr := fun _ S => some ([], S)
@[simp] def mPr (k : Key) (m : ME) (r : MPr) : MPr := fun σ S => (m σ S).bind fun v => (asD1 v.1).bind fun d => (r σ v.2).map fun q => ((k, d) :: q.1, q.2)
def mDisp (r : MPr) : ME := fun σ S => (r σ (S ++ [.dK []])).bind fun q => match q.2[S.length]? with
  | some (.dK []) => if decide (q.1.length ≤ 15) = true then some (.loc S.length, q.2.set S.length (.dK (q.1.foldl (fun acc kv => putD acc kv.1 kv.2) []))) else none
  | _ => none
/-- what is made on the way is forgotten -/
def mTmp (m : ME) : ME := fun σ S => (m σ S).bind fun r => match r.1 with
  | .d x => if trimOk S r.2 = true then some (.d x, r.2.take S.length) else none
  | _ => none
theorem trimOk_low {K : KW} {ρ : Rho} {H : Hp} {S S' : Sto} (s : SRel K ρ H S) (h : trimOk S S' = true) : Low S.length (S'.take S.length) := fun i o e => by
  rw [List.getElem?_take] at e
  split at e
  · rename_i hi
    rcases says_of h i o hi e with q | q
    · exact s.low q
    · exact q
  · cases e
theorem d_tmp {m : ME} (h : PD X e m) : PD X e (mTmp m) := peImp h fun σ H Q ⟨ρ, σd, S, w, S', hs, he, hm, q⟩ => by
  obtain ⟨⟨w1, S1⟩, h1, hm⟩ := Option.bind_eq_some_iff.mp hm
  refine ⟨ρ, σd, S, w1, S1, hs, he, h1, fun ρ1 v1 H1 e1 s1 r1 => ?_⟩
  dsimp only at hm
  split at hm
  · obtain ⟨hk, hm⟩ := some_if hm
    cases hm
    refine q (ρ1.cut S.length) v1 H1 (e1.cut (by rw [hs.len]; exact Nat.le_refl _)) (s1.cut (trimOk_low hs hk)) ?_
    exact Rep.sub (ρ' := ρ1.cut S.length) (fun a n => ⟨fun z => n.1 (List.mem_of_mem_take z), n.2⟩) r1
  · cases hm
structure PDPr (X : Cx) (pos : Pos) (keys : List (Option Expr)) (values : List Expr) (m : MPr) : Prop where
  run : ∃ trs, PPs X pos keys values trs ∧ ∀ ρ σd σ H S kvs S' (Q : List (V × V) → Hp → Prop), SRel (kwOf X) ρ H S → RelE (kwOf X) ρ H σd σ → m σd S = some (kvs, S') →
    (∀ ρ' us H', Ext ρ H ρ' H' → SRel (kwOf X) ρ' H' S' → RepKV ρ' H' kvs us → Q (us.map fun kv => (kV kv.1, kv.2)) H') → tPairs trs σ H Q
theorem dpr_nil {pos : Pos} : PDPr X pos [] [] mPr0 := ⟨⟨[], pps_nil, fun ρ σd σ H S kvs S' Q hs he hm q => by
  cases hm
  exact q ρ [] H .refl hs .nil⟩⟩
theorem dpr_cons {pos : Pos} {k : Key} {ke v : Expr} {ks : List (Option Expr)} {vs : List Expr} {m : ME} {r : MPr} (hk : PE X ke (tC (kV k))) (hv : PD X v m) (hr : PDPr X pos ks vs r) : PDPr X pos (some ke :: ks) (v :: vs) (mPr k m r) := by
  obtain ⟨⟨trs, h1, h2⟩⟩ := hr
  refine ⟨⟨_, pps_cons hk hv h1, fun ρ σd σ H S kvs S' Q hs he hm q => ?_⟩⟩
  obtain ⟨⟨w, S1⟩, g1, hm⟩ := Option.bind_eq_some_iff.mp hm
  obtain ⟨d, g2, hm⟩ := Option.bind_eq_some_iff.mp hm
  rw [Option.map_eq_some_iff] at hm
  obtain ⟨⟨kvs2, S2⟩, g3, g4⟩ := hm
  cases g4
  show tD (kwOf X) m σ H _
  refine ⟨ρ, σd, S, w, S1, hs, he, g1, fun ρ1 v1 H1 e1 s1 r1 => ?_⟩
  refine h2 ρ1 σd σ H1 S1 kvs2 _ _ s1 (he.ext e1) g3 fun ρ2 us H2 e2 s2 r2 => ?_
  cases w with
  | d x =>
    cases g2
    exact q ρ2 ((k, v1) :: us) H2 (e1.trans e2) s2 (.cons (Rep.ext e2 r1) r2)
  | _ => cases g2
theorem foldl_put {ρ : Rho} {H : Hp} : ∀ {more : List (Key × D)} {us : List (Key × V)} {kvs : List (Key × D)} {vs : List (Key × V)}, RepKV ρ H more us → RepKV ρ H kvs vs → RepKV ρ H (more.foldl (fun acc kv => putD acc kv.1 kv.2) kvs) (mergeK vs us) := by
  intro more us kvs vs r
  induction r generalizing kvs vs with
  | nil => exact fun h => h
  | cons r1 _ ih => exact fun h => ih (h.put _ r1)
theorem d_disp {pos : Pos} {keys : List (Option Expr)} {values : List Expr} {m : MPr} (h : PDPr X pos keys values m) (hall : keys.all (·.isSome) = true := by rfl) (hl : keys.length = values.length := by rfl) (h0 : keys ≠ [] := by simp) (h15 : keys.length ≤ 15 := by decide) : PD X (.Dict keys values pos) (mDisp m) := by
  obtain ⟨⟨trs, h1, h2⟩⟩ := h
  refine peImp (pe_disp h1 hall hl h0 h15) fun σ H Q ⟨ρ, σd, S, w, S', hs, he, hm, q⟩ => ?_
  obtain ⟨⟨kvs, S1⟩, g1, hm⟩ := Option.bind_eq_some_iff.mp hm
  dsimp only at hm
  split at hm
  · rename_i g0
    obtain ⟨g2, hm⟩ := some_if hm
    cases hm
    intro p hp
    have hs1 : SRel (kwOf X) (ρ.add p) (upd H p (.dK [])) (S ++ [.dK []]) := hs.alloc hp ⟨[], upd_same, .nil⟩
    have hE1 : Ext ρ H (ρ.add p) (upd H p (.dK [])) := Ext.alloc hs hp
    refine h2 (ρ.add p) σd σ _ _ kvs S1 _ hs1 (he.ext hE1) g1 fun ρ1 us H1 e1 s1 r1 => ?_
    obtain ⟨a, ha⟩ := s1.live S.length _ g0 (by intro z; cases z)
    have hlt : S.length < (ρ.add p).l.length := by simp [Rho.add, hs.len]
    have hap : a = p := by
      have := e1.loc S.length a hlt ha
      have e2 : (ρ.add p).l[S.length]? = some (some p) := by
        show (ρ.l ++ [some p])[S.length]? = _
        rw [List.getElem?_append_right (by rw [hs.len]; exact Nat.le_refl _), hs.len]
        simp
      rw [e2] at this
      cases this
      rfl
    subst hap
    obtain ⟨o, k1, k2⟩ := s1.obj S.length a ha
    rw [g0] at k1
    cases k1
    obtain ⟨us0, k3, k4⟩ := k2
    cases k4
    have hm' := List.mem_of_getElem? ha
    refine ⟨k3, us, rfl, by rw [← r1.length]; exact of_decide_eq_true g2, ?_⟩
    refine q ρ1 _ _ ((hE1.trans e1).trans (Ext.write hm')) (s1.write ha ⟨_, upd_same, (foldl_put r1 .nil).ext (Ext.write hm')⟩) ⟨(List.getElem?_eq_some_iff.mp ha).1, fun b hb => ?_⟩
    rw [ha] at hb
    cases hb
    rfl
  · cases hm
end
theorem u70 {k : Nat} {A : Around} (r : Room k A) : A.units + 70 < cLine := by have := r.un; omega
end DL

set_option Elab.async false
set_option linter.all false
set_option maxRecDepth 100000
set_option autoImplicit false
/-! A list that a comprehension makes and that is to be changed. -/
noncomputable section
namespace DL
open PySem PySem.Spec PyProof.Rows L2
section
variable {K : KW} {ρ : Rho} {H : Hp} {S : Sto}
variable {X : Cx} {e a b c tg : Expr} {pos : Pos} {st : Stmt} {rest : List Stmt} {es : List Expr}
@[simp] def mCompN (mi : MI) (g : MG) (t : MT) (m : ME) (vs : List Nat) : ME := fun σ S => (mi σ S).bind fun r => (compM g t m r.1 (wipeD σ vs) r.2 []).map fun q => (.loc q.2.length, q.2 ++ [.lst q.1])
theorem compN_of {K : KW} {mi : MI} {g : MG} {mt : MT} {m : ME} {vs : List Nat} {σ : L2.St} {H : Hp} {Q : VK}
    (h : tD K (mCompN mi g mt m vs) σ H Q) : tLc (iD K mi) (gC K vs g) (tDT K mt) (tD K m) vs σ H Q := by
  obtain ⟨ρ, σd, S, w, S', hs, he, hm, q⟩ := h
  obtain ⟨⟨ds, S1⟩, h1, hm⟩ := Option.bind_eq_some_iff.mp hm
  rw [Option.map_eq_some_iff] at hm
  obtain ⟨⟨out, S2⟩, h2, h3⟩ := hm
  cases h3
  refine ⟨ρ, σd, S, ds, S1, hs, he, h1, fun ρ1 J H1 e1 s1 iok => ?_⟩
  intro Dd hD
  have hbl := block_mv (ρ := ρ1) (o := .lst []) hD
  have e0 : Ext ρ1 H1 (ρ1.block Dd) (upd H1 Dd (.lst [])) := ⟨fun a o ha na => ⟨(Ext.new (ρ := ρ1) hD).keep a o ha na |>.1, na⟩, fun _ _ _ h => h, Nat.le_refl _, none_of_upd, fun a h => (List.mem_cons.mp h).elim (fun z => .inr (z ▸ hD)) .inl, fun a h => List.mem_cons_of_mem _ h⟩
  refine ⟨fun i n H' => n = ds.length - i ∧ ∃ ρ' S' acc us, Ext ρ1 H1 ρ' H' ∧ Dd ∈ ρ'.b ∧ SRel K ρ' H' S' ∧ RelE K ρ' H' (wipeD σd vs) (L2.wipe σ vs) ∧ H' Dd = some (.lst us) ∧ RepL ρ' H' acc us ∧ compM g mt m (ds.drop i) (wipeD σd vs) S' acc = some (out, S2), ?_, ?_⟩
  · exact ⟨ds.length, rfl, ρ1.block Dd, S1, [], [], e0, List.mem_cons_self, s1.blocked hD, ((he.ext e1).wipe vs).mv hbl rfl, upd_same, .nil, by simpa using h2⟩
  rintro i n H2 ⟨rfl, ρ2, S3, acc, us, e2, b2, s2, he2, hD2, ra, hf⟩
  have nD2 : some Dd ∉ ρ2.l := (s2.blk Dd b2).2
  obtain ⟨stop, go⟩ := iok _ H2 S3 e2 s2 i
  by_cases hi : i < ds.length
  · obtain ⟨d, hd⟩ : ∃ d, ds[i]? = some d := ⟨ds[i], by simp [hi]⟩
    obtain ⟨hgo, hy⟩ := go d hd
    have hdr : ds.drop i = d :: ds.drop (i + 1) := by
      rw [List.drop_eq_getElem_cons hi]
      congr 1
      have := List.getElem?_eq_getElem hi
      rw [this] at hd
      exact Option.some.inj hd
    rw [hdr] at hf
    obtain ⟨σ3, h3, hf⟩ := Option.bind_eq_some_iff.mp hf
    obtain ⟨⟨k, S4⟩, h4, hf⟩ := Option.bind_eq_some_iff.mp hf
    refine .inr ⟨hgo, fun H' => ∃ ρ' S' acc us, Ext ρ1 H1 ρ' H' ∧ Dd ∈ ρ'.b ∧ SRel K ρ' H' S' ∧ RelE K ρ' H' (wipeD σd vs) (L2.wipe σ vs) ∧ H' Dd = some (.lst us) ∧ RepL ρ' H' acc us ∧ compM g mt m (ds.drop (i + 1)) (wipeD σd vs) S' acc = some (out, S2), fun H' hN => ⟨ds.length - (i + 1), by omega, rfl, hN⟩, ?_⟩
    intro x H3 hyl
    obtain ⟨gr, rx⟩ := hy x H3 hyl
    have e3 : Ext ρ2 H2 ρ2 H3 := Ext.gr gr
    refine ⟨ρ2, wipeD σd vs, S3, .d d, σ3, s2.gr gr, he2.ext e3, rx, h3, fun ρ4 σ4 H4 e4 s4 r4 w4 => ⟨by rw [w4, wipe_idem], ?_⟩⟩
    refine ⟨ρ4, σ3, S3, k, S4, s4, r4, h4, fun ρ5 H5 e5 s5 => ?_⟩
    have e25 : Ext ρ2 H2 ρ5 H5 := (e3.trans e4).trans e5
    obtain ⟨hD5, nD5⟩ := e25.keep _ _ hD2 nD2
    cases k with
    | true =>
      dsimp only at hf ⊢
      rw [if_pos rfl] at hf ⊢
      obtain ⟨⟨w6, S6⟩, h6, hf⟩ := Option.bind_eq_some_iff.mp hf
      obtain ⟨x6, hx6, hf⟩ := Option.bind_eq_some_iff.mp hf
      refine ⟨ρ5, σ3, S4, w6, S6, s5, r4.ext e5, h6, fun ρ6 v6 H6 e6 s6 r6 => ?_⟩
      have e26 := e25.trans e6
      obtain ⟨hD6, nD6⟩ := e26.keep _ _ hD2 nD2
      have b6 := e26.bsub _ b2
      dsimp only at hf
      split at hf
      · rename_i hfit
        have r6' : Rep ρ6 H6 x6 v6 := by
          cases w6 with
          | d y => cases hx6; exact r6
          | _ => cases hx6
        have e16 := e2.trans e26
        refine ⟨us, hD6, by rw [← ra.length]; exact fits_lt hfit, ρ6, S6, acc ++ [x6], us ++ [v6], ?_, b6, s6.blkW b6, (he2.ext e26).mv (blk_mv b6) rfl, upd_same, ?_, hf⟩
        · exact ⟨fun a o ha na => by
            have hne : a ≠ Dd := ne_of_none ha hD
            rw [upd_ne hne]
            exact e16.keep a o ha na, e16.loc, e16.len, fun a h => e16.dom a (none_of_upd a h), e16.bnew, e16.bsub⟩
        · exact ((ra.ext e26).append (.cons r6' .nil)).mv (blk_mv b6)
      · cases hf
    | false =>
      dsimp only at hf ⊢
      rw [if_neg Bool.false_ne_true] at hf ⊢
      exact ⟨ρ5, S4, acc, us, e2.trans e25, e25.bsub _ b2, s5, he2.ext e25, hD5, ra.ext e25, hf⟩
  · have hn : ds.drop i = [] := List.drop_eq_nil_of_le (by omega)
    rw [hn] at hf
    cases hf
    have hsub : ∀ a, a ∈ ρ2.b.filter (fun a => decide (a ≠ Dd)) → a ∈ ρ2.b := fun a h => (List.mem_filter.mp h).1
    have e2' : Ext ρ1 H1 ⟨ρ2.l, ρ2.b.filter (fun a => decide (a ≠ Dd))⟩ H2 := ⟨e2.keep, e2.loc, e2.len, e2.dom, fun a h => e2.bnew a (hsub a h), fun a h => List.mem_filter.mpr ⟨e2.bsub a h, by
      have : a ≠ Dd := fun z => s1.freshb hD (z ▸ h)
      simpa using this⟩⟩
    have hfr : ∀ a, ρ2.Fr a → (Rho.add ⟨ρ2.l, ρ2.b.filter (fun a => decide (a ≠ Dd))⟩ Dd).Fr a := fun a n => ⟨fun z => by
      rcases List.mem_append.mp z with z | z
      · exact n.1 z
      · simp at z; exact n.2 (z ▸ b2), fun z => n.2 (hsub a z)⟩
    have e3' : Ext ρ1 H1 (Rho.add ⟨ρ2.l, ρ2.b.filter (fun a => decide (a ≠ Dd))⟩ Dd) H2 := ⟨fun a o ha na => ⟨(e2'.keep a o ha na).1, fun z => by
      rcases List.mem_append.mp z with z | z
      · exact (e2'.keep a o ha na).2 z
      · simp at z; subst z; rw [hD] at ha; cases ha⟩, fun i a hi q => by
        have q' : (ρ2.l ++ [some Dd])[i]? = some (some a) := q
        rw [List.getElem?_append_left (Nat.lt_of_lt_of_le hi e2.len)] at q'
        exact e2.loc i a hi q', Nat.le_trans e2.len (by simp [Rho.add]), e2'.dom, e2'.bnew, e2'.bsub⟩
    have s3' : SRel K (Rho.add ⟨ρ2.l, ρ2.b.filter (fun a => decide (a ≠ Dd))⟩ Dd) H2 (S2 ++ [.lst out]) := ⟨by simp [s2.len, Rho.add], fun i a e => by
      rcases add_at e with ⟨hi, e'⟩ | ⟨hi, rfl⟩
      · obtain ⟨u, h1, h2⟩ := s2.obj i a e'
        exact ⟨u, by rw [List.getElem?_append_left (by rw [← s2.len]; exact hi)]; exact h1, ORel.sub hfr (fun _ _ _ h => h.add) h2⟩
      · refine ⟨.lst out, ?_, ⟨us, hD2, RepL.sub hfr ra⟩⟩
        have hi : i = ρ2.l.length := hi
        rw [hi, s2.len, List.getElem?_append_right (Nat.le_refl _)]
        simp, fun i j a e1 e2 => by
      rcases add_at e1 with ⟨h1, q1⟩ | ⟨h1, q1⟩ <;> rcases add_at e2 with ⟨h2, q2⟩ | ⟨h2, q2⟩
      · exact s2.inj i j a q1 q2
      · subst q2; exact absurd (List.mem_of_getElem? q1) nD2
      · subst q1; exact absurd (List.mem_of_getElem? q2) nD2
      · omega, fun i u e hu => by
      by_cases hi : i < S2.length
      · rw [List.getElem?_append_left hi] at e
        obtain ⟨a, q⟩ := s2.live i u e hu
        refine ⟨a, ?_⟩
        show (ρ2.l ++ [some Dd])[i]? = _
        rw [List.getElem?_append_left (by rw [s2.len]; exact hi)]
        exact q
      · rw [List.getElem?_append_right (by omega)] at e
        have : i - S2.length = 0 := by
          cases q : i - S2.length with
          | zero => rfl
          | succ n => rw [q] at e; simp at e
        refine ⟨Dd, ?_⟩
        show (ρ2.l ++ [some Dd])[i]? = _
        rw [List.getElem?_append_right (by rw [s2.len]; omega), s2.len, this]
        rfl, fun a ha => by
      obtain ⟨h1, h2⟩ := s2.blk a (hsub a ha)
      refine ⟨h1, fun z => ?_⟩
      rcases List.mem_append.mp z with z | z
      · exact h2 z
      · simp at z; subst z
        have := (List.mem_filter.mp ha).2
        simp at this⟩
    refine .inl ⟨stop (by omega), q _ _ H2 (e1.trans e3') s3' ?_⟩
    refine ⟨by simp [s2.len, Rho.add], fun a ha => ?_⟩
    have ha : (ρ2.l ++ [some Dd])[S2.length]? = some (some a) := ha
    rw [← s2.len, List.getElem?_append_right (Nat.le_refl _)] at ha
    simp at ha
    rw [ha]
theorem d_setCompN (i : Nat) {y : Str} {py spos : Pos} {elt iter : Expr} {ifs : List Expr} {scope : Scope} (own : List (Str × Nat)) {mi : MI} {g : MG} {mt : MT} {m : ME} (hc : X.calm = true) (hN : X.N.Nodup) (hy : X.N[i]? = some y) (hyl : X.env.scope.names.lookup y = some .local)
    (hsw : swapsWith (.ListComp elt [⟨tg, iter, ifs, 0⟩] scope pos) (some (.Name y py)) spos.line X.env = pure true) (hi : PDI X tg iter mi) (ok : BlkOk X.N X.env.scope scope own)
    (hg : ∀ (s : Shared) (H : Hp) (C : Addr) (cl : List (Str × Addr)) (fp : List Addr), PDGc (X.blk s H scope (compEnvC scope cl C X.env) fp) (own.map (·.2)) tg g) (ht : ∀ (s : Shared) (H : Hp) (C : Addr) (cl : List (Str × Addr)) (fp : List Addr), PDTs (X.blk s H scope (compEnvC scope cl C X.env) fp) ifs mt)
    (he : ∀ (s : Shared) (H : Hp) (C : Addr) (cl : List (Str × Addr)) (fp : List Addr), PD (X.blk s H scope (compEnvC scope cl C X.env) fp) elt m) (hs : ∀ x, foldedSetIterable iter X.env x = pure x := by intro _; rfl) :
    PDS X (.Assign [.Name y py] (.ListComp elt [⟨tg, iter, ifs, 0⟩] scope pos) spos) (mAsg i (mCompN mi g mt m (own.map (·.2)))) :=
  psImp (ps_setLc hc hN hy hyl hsw hi ok hg ht he hs) fun D σ H h => by
    obtain ⟨ρ, σd, S, out, hs, he, hm, q⟩ := h
    unfold mAsg at hm
    rw [Option.map_eq_some_iff] at hm
    obtain ⟨⟨w, S1⟩, h1, h2⟩ := hm
    cases h2
    exact compN_of ⟨ρ, σd, S, w, S1, hs, he, h1, fun ρ1 v H1 e1 s1 r1 => q ρ1 _ H1 e1 s1 ((he.ext e1).set r1 i)⟩
/-- a, b = x, y where a name is a cell -/
theorem d_par2c (i j : Nat) {x y : Str} {m : MA} {px py pt : Pos} {kt k2 pt2} (hc : X.calm = true) (hN : X.N.Nodup) (hx : Loc X.env.scope x) (hy : Loc X.env.scope y) (ha : PDA X [a, b] m)
    (hi : X.N[i]? = some x := by rfl) (hj : X.N[j]? = some y := by rfl) (hfx : X.fn x = true ∨ X.env.scope.names.lookup x = some .local := by first | exact .inl rfl | exact .inr rfl) (hfy : X.fn y = true ∨ X.env.scope.names.lookup y = some .local := by first | exact .inl rfl | exact .inr rfl)
    (hw : swappedStores [.Tuple [.Name x px, .Name y py] kt pt] (.Tuple [a, b] k2 pt2) X.env = pure none := by rfl)
    (hs : swapsWithSole [.Tuple [.Name x px, .Name y py] kt pt] (.Tuple [a, b] k2 pt2) pos.line X.env = pure false := by rfl)
    (h1 : (assignEach [.Tuple [.Name x px, .Name y py] kt pt] X.env).map (·.2) = [assign (.Tuple [.Name x px, .Name y py] kt pt) X.env] := by rfl)
    (hn : (assignEach [.Name x px, .Name y py] X.env).length = 2 := by rfl) (hst : (assignEach [.Name x px, .Name y py] X.env).findIdx? (·.1) = none := by rfl)
    (hs1 : (assignEach [.Name x px, .Name y py] X.env).map (·.2) = assign (.Name x px) X.env :: (assignEach [.Name y py] X.env).map (·.2) := by rfl) (hs2 : (assignEach [.Name y py] X.env).map (·.2) = assign (.Name y py) X.env :: (assignEach [] X.env).map (·.2) := by rfl) :
    PDS X (.Assign [.Tuple [.Name x px, .Name y py] kt pt] (.Tuple [a, b] k2 pt2) pos) (mPar2 i j m) := psImp (ps_asg (pe_tup ha) (pg_tup hc (pgs_cons (pg_name hN hi hx hfx) (pgs_cons (pg_name hN hj hy hfy) pgs_nil hs2) hs1) hn hst) hs hw h1) fun D σ H ⟨ρ, σd, S, out, hs, he, hm, q⟩ => by
  obtain ⟨⟨ws, S1⟩, h1, hm⟩ := Option.bind_eq_some_iff.mp hm
  refine ⟨ρ, σd, S, ws, S1, hs, he, h1, fun ρ1 vs H1 e1 s1 r1 => ?_⟩
  simp only at hm
  split at hm
  · rename_i u v
    cases hm
    obtain ⟨y1, y2, rfl, q1, q2⟩ := r1.two
    refine ⟨by rw [sizeLine_eq]; show 2 ≤ 16777216; decide, fun p hp => ?_⟩
    have e2 := Ext.new (ρ := ρ1) (H := H1) (o := .tup [y1, y2]) hp
    refine ⟨p, _, rfl, SqT.of upd_same, rfl, y1, [y2], rfl, y2, [], rfl, rfl, ?_⟩
    exact q ρ1 _ _ (e1.trans e2) (s1.new hp) (((he.ext (e1.trans e2)).set (q1.ext e2) i).set (q2.ext e2) j)
  · cases hm
/-- (.., *m, ..), m a tuple -/
@[simp] def mStar (m : ME) (r : MA) : MA := fun σ S => (m σ S).bind fun q => (asT q.1).bind fun ds => (r σ q.2).map fun p => (ds.map (fun d => W.d d) ++ p.1, p.2)
theorem rels_of {K : KW} {ρ : Rho} {H : Hp} : ∀ {ds : List D} {vs : List V} {ws : List W} {us : List V}, RepL ρ H ds vs → RelWs K ρ H ws us → RelWs K ρ H (ds.map (fun d => W.d d) ++ ws) (vs ++ us)
  | _, _, _, _, .nil, t => t
  | _, _, _, _, .cons r h, t => .cons r (rels_of h t)
theorem da_star {p : Pos} {m : ME} {r : MA} (he : PD X e m) (hr : PDA X es r) (hs : starEach (.Starred e p :: es) X.env = (true, eval e X.env) :: starEach es X.env := by rfl) : PDA X (.Starred e p :: es) (mStar m r) :=
  paImp (StX.pa_star he hr hs) fun σ H Q ⟨ρ, σd, S, w, S', hs, hE, hm, q⟩ => by
    obtain ⟨⟨w1, S1⟩, h1, hm⟩ := Option.bind_eq_some_iff.mp hm
    obtain ⟨ds, hT, hm⟩ := Option.bind_eq_some_iff.mp hm
    rw [Option.map_eq_some_iff] at hm
    obtain ⟨⟨ws, S2⟩, h2, h3⟩ := hm
    cases h3
    refine ⟨ρ, σd, S, w1, S1, hs, hE, h1, fun ρ1 v1 H1 e1 s1 r1 => ?_⟩
    obtain ⟨a, vs, rfl, hq, hr⟩ := asT_rel r1 hT
    exact ⟨a, vs, rfl, .inl hq, ρ1, σd, S1, ws, S2, s1, hE.ext e1, h2, fun ρ2 us H2 e2 s2 r2 => q ρ2 _ H2 (e1.trans e2) s2 (rels_of (hr.ext e2) r2)⟩
end
end DL

set_option Elab.async false
set_option linter.all false
set_option maxRecDepth 100000
set_option autoImplicit false
/-! A tuple whose object itself is known: its methods. -/
noncomputable section
namespace DL
open PySem PySem.Spec PyProof.Rows L2
section
variable {K : KW} {ρ : Rho} {H : Hp} {S : Sto}
variable {X : Cx} {e a b c tg : Expr} {pos : Pos} {st : Stmt} {rest : List Stmt} {es : List Expr}
theorem cr_tupleF : CallR X (.type "tuple") (fun xs H Q => ∃ p ys, xs = [.ref p] ∧ SqL X.K H p ys ∧ ∀ l o, H l = none → o.cls = .type "tuple" → o.dict = none → Q (.ref l) (upd H l (.frz o (.tup ys)))) := by
  intro pins s σ H xs us Q I r h
  obtain ⟨p, ys, rfl, hq, q⟩ := h
  obtain ⟨u, rfl, rx⟩ := vals1 r
  cases rx
  obtain ⟨its, r', pl, hz⟩ := I.list hq
  have hlen := r'.length
  refine call_tuple_list pl.isList (fun h' kp => ?_) (by simp only [List.size_toArray] <;> omega)
  have I1 : Inv X pins σ H { s with heap := h' } := I.kept (t' := s.toks) kp
  have I2 : Inv X pins σ (upd H h'.objs.size (.frz { cls := .type "tuple", data := .seq its.toArray } (.tup ys))) { s with heap := h'.push { cls := .type "tuple", data := .seq its.toArray } } :=
    I1.laid (t' := s.toks) (fun b o e => Heap.get?_push_of_some _ e) (Nat.le_refl _) (show ObjOk X.prog X.w _ _ _ (.frz _ (.tup ys)) from ⟨Heap.get?_push_size _ rfl, hz, its, r', IsTup.new _ _⟩)
  exact ⟨.ref h'.objs.size, _, I2, rfl, q _ _ (I1.hok.fresh (Nat.le_refl _)) rfl rfl⟩
def vTupleF (S : Sto) (x : W) : Option W := (asL S x).map fun ds => .ft ds
theorem c_tupleF : CallD X (.type "tuple") (pure1 vTupleF) := call1_by cr_tupleF fun H v Q ρ S x w hs rx hg q => by
  unfold vTupleF at hg
  rw [Option.map_eq_some_iff] at hg
  obtain ⟨ds, h1, rfl⟩ := hg
  obtain ⟨a, vs, rfl, h2, h3⟩ := asL_rel hs rx h1
  exact ⟨a, vs, rfl, h2, fun l o hp c1 c2 => q ρ _ _ (Ext.new hp) (hs.new hp) ⟨l, o, vs, rfl, hs.fresh hp, upd_same, c1, c2, h3.ext (Ext.new hp)⟩⟩
def isFt (S : Sto) : W → Bool
  | .ft _ => true
  | _ => false
def tyFt (x : V) (H : Hp) : Prop := ∃ a o vs, x = .ref a ∧ H a = some (.frz o (.tup vs)) ∧ o.cls = .type "tuple" ∧ o.dict = none
theorem ty_ft : TyOk X "tuple" tyFt := fun pins σ H s x v I r ty => by
  obtain ⟨a, o, vs, rfl, h, c1, c2⟩ := ty
  cases r
  obtain ⟨g1, _⟩ := I.hok a _ h
  exact ⟨⟨o, g1, c1⟩, fun b e => by cases e; exact ⟨o, g1, c2⟩⟩
theorem d_methF {o : Expr} {name : Str} {apos cpos : Pos} {id : String} {g : GM} {mo : ME} {m : MA} (pa : PlainAttrs "tuple") (slot : Slot "tuple" name id) (hty : typeOf (.builtin id) = pure (.type "method_descriptor")) (hm : MtD X id g) (ho : PD X o mo) (ha : PDA X (e :: es) m)
    (hbase : attributeBase o name X.env (eval o X.env) = eval o X.env := by rfl)
    (hfew : ((backTo cpos (starEach (e :: es) X.env)).all (fun x => !x.1) && (backToKw cpos (keywordEach [] X.env)).all (fun x => x.1.isSome)
      && decide ((e :: es).length + ([] : List Keyword).length + (if ([] : List Keyword).isEmpty then 0 else 1) < 30)) = true := by rfl)
    (hline : (apos.endLine == cpos.line) = true := by rfl) (hs : starEach (e :: es) X.env = (false, eval e X.env) :: starEach es X.env := by rfl) (hplain : (backTo cpos (starEach es X.env)).any (·.1) = false := by rfl) :
    PD X (.Call (.Attribute o name apos) (e :: es) [] cpos) (mMeth isFt g mo m) := peImp (pe_mG ty_ft pa slot hty hm ho ha hbase hfew hline hs hplain) fun σ H Q ⟨ρ, σd, S, w, S', hs, he, hm, q⟩ => by
  obtain ⟨⟨w1, S1⟩, h1, hm⟩ := Option.bind_eq_some_iff.mp hm
  dsimp only at hm
  split at hm
  · rename_i ht
    obtain ⟨⟨ws, S2⟩, h2, hm⟩ := Option.bind_eq_some_iff.mp hm
    refine ⟨ρ, σd, S, w1, S1, hs, he, h1, fun ρ1 v1 H1 e1 s1 r1 => ⟨?_, ρ1, σd, S1, ws, S2, s1, he.ext e1, h2, fun ρ2 vs H2 e2 s2 r2 => ?_⟩⟩
    · cases w1 with
      | ft xs =>
        obtain ⟨a, o, vs, e, n, h, c1, c2, _⟩ := r1
        exact ⟨a, o, vs, e, h, c1, c2⟩
      | _ => cases ht
    · exact ⟨ρ2, S2, w1, ws, w, S', s2, r1.ext e2, r2, hm, fun ρ3 z H3 e3 s3 r3 => q ρ3 z H3 ((e1.trans e2).trans e3) s3 r3⟩
  · cases hm
def gTIndex : GM := fun S x ws => match x, ws with
  | .ft ds, [.d (.int k)] => (intsOf ds).bind fun ns => if decide (k ∈ ns) = true then some (.d (.int (ns.idxOf k : Nat)), S) else none
  | _, _ => none
theorem t_tindex : MtD X "tuple.index" gTIndex := by
  rintro pins s σ H x vs v us Q I rx rvs ⟨ρ, S, w, ws, w', S', hs, rw', rws, hg, q⟩
  unfold gTIndex at hg
  split at hg
  · rename_i ds k
    obtain ⟨ns, h2, hg⟩ := Option.bind_eq_some_iff.mp hg
    obtain ⟨hk, hg⟩ := some_if hg
    cases hg
    have := intsOf_eq h2
    subst this
    obtain ⟨a, o, us', rfl, n, h1, c1, c2, hr⟩ := rw'
    have := hr.ints
    subst this
    obtain ⟨z, rfl, rz⟩ := rws.one
    cases rz
    cases rx
    obtain ⟨u, rfl, t, rfl⟩ := vals1 rvs
    obtain ⟨its, rv, ht, _⟩ := I.tuple (show SqT X.K H a (ns.map V.int) from .inl (.inr ⟨o, h1⟩))
    exact SeqAt.tuple_index_ints (show s.heap.IsTuple a its.toArray from ht) rv.ints (of_decide_eq_true hk) ⟨.int _, H, I.tok _, ⟨_, rfl⟩, q ρ _ H .refl hs (.int _)⟩
  · cases hg
end
end DL

set_option Elab.async false
set_option linter.all false
set_option maxRecDepth 100000
set_option autoImplicit false
/-! enumerate over a tuple. -/
namespace PySem
set_option maxHeartbeats 1000000 in
theorem dl_meets_enum1 {v : Value} {o : Obj} {H : Heap → Prop} (B : Begins v o H) :
    Meets (Builtin.«enumerate.__new__» ⟨[.type "enumerate", v], []⟩) (fun _ R s => H s.heap ∧
      R (.ok (.ret (.ref (s.heap.push o).objs.size))) { s with heap := (s.heap.push o).push { cls := .type "enumerate", data := .fields #[.none, .bool false, .ref s.heap.objs.size, rawInt 0, .none, .none] } }) :=
  .of_wp fun prog w A R s h => by
    obtain ⟨hp, g, d, tk, os⟩ := s; obtain ⟨h1, h⟩ := h
    have hsub := sub_enumerate
    have q1 : ∀ {A' : Around} {E : Value → Shared → Prop} {Q : Value → Shared → Prop}, Q (.ref hp.objs.size) ⟨hp.push o, g, d, tk, os⟩ → wpAny (model prog w) A' (pyIter v) Q E ⟨hp, g, d, tk, os⟩ :=
      fun q => B.iter prog w _ _ ⟨hp, g, d, tk, os⟩ _ h1 q
    wp_walk using q1
    refine wpAny_stack_any fun st => wpAny_pure ?_
    split
    · rename_i c _ _ _ _ _
      cases (c == Value.type "enumerate")
      · wp_walk using q1
        exact ⟨_, rfl, h⟩
      · wp_walk using q1
        exact ⟨_, rfl, h⟩
    · wp_walk using q1
      exact ⟨_, rfl, h⟩
section
variable {prog : Program} {w : World} {A : Around} {E : Value → Shared → Prop} {s : Shared}
theorem dl_call_enum1 {v : Value} {o : Obj} {H : Heap → Prop} {Q : Value → Shared → Prop} (B : Begins v o H) (h1 : H s.heap)
    (h : ∀ h', IsEnum h' (s.heap.objs.size + 1) s.heap.objs.size 0 .none → h'.get? s.heap.objs.size = some o → h'.objs.size = s.heap.objs.size + 2 →
      (∀ b o, s.heap.get? b = some o → h'.get? b = some o) → Q (.ref (s.heap.objs.size + 1)) { s with heap := h' }) :
    wpAny (model prog w) A (call (.type "enumerate") [v]) Q E s := by
  refine callType_new F.called_enumerate (by decide) (F.typeCall_enumerate_1 _) (F.newCall_enumerate_1 _) (fun obj => F.args_object_init_2 obj _) F.entry_enumerate_new
    (dl_meets_enum1 B) ⟨h1, ?_⟩
  have hz : (s.heap.push o).objs.size = s.heap.objs.size + 1 := Heap.size_push ..
  show _ ∧ _
  rw [hz]
  have he : IsEnum ((s.heap.push o).push { cls := .type "enumerate", data := .fields #[.none, .bool false, .ref s.heap.objs.size, rawInt 0, .none, .none] }) (s.heap.objs.size + 1) s.heap.objs.size 0 .none := by
    have := Heap.get?_push_size (s.heap.push o) (o := { cls := .type "enumerate", data := .fields #[.none, .bool false, .ref s.heap.objs.size, rawInt 0, .none, .none] }) rfl
    rw [hz] at this; exact this
  refine ⟨⟨_, he, rfl⟩, h _ he (Heap.get?_push_of_some _ (Heap.get?_push_size _ B.free)) (by rw [Heap.size_push, hz]) fun b o x => Heap.get?_push_of_some _ (Heap.get?_push_of_some _ x)⟩
theorem dl_enum_endT {e it l : Addr} {i : Nat} {items : Array Value} {c : Int} {old : Value} {Q : Option Value → Shared → Prop} (hh : A.handled = none) (he : IsEnum s.heap e it c old) (hit : s.heap.IsTupleIter it l i) (hl : s.heap.IsTuple l items) (hx : items[i]? = none)
    (hQ : ∀ h', Heap.ExtBut it s.heap h' → Q none { s with heap := h' }) : wpAny (model prog w) A (pyNext (.ref e)) Q E s := by
  have hT : s.TypeIs (.ref e) "enumerate" := ⟨_, he, rfl⟩
  unfold pyNext
  refine wpAny_bind (wpAny_attempt (wpAny_callSpecial?_slot (name := Str.ofString "__next__") hT F.slot_enumerate_next
    (wpAny_call_entry F.slot_enumerate_next hT F.entry_enumerate_next ?_ (F.args_enumerate_next_1 _))))
  show wpAny _ _ (field (.ref e) 2 >>= _) _ _ _
  refine wpAny_bind (wpAny_field he rfl (x := .ref it) rfl ?_)
  refine wpAny_bind (wpAny_nextOf_tuple_end hh hit hl hx fun h' x he' hx' => ?_)
  obtain ⟨o, ho, hc⟩ := hx'
  refine wpAny_bind (wpAny_isInstance (T := "StopIteration") (b := true) ⟨o, ho, hc⟩ isSubtype_stop ?_)
  exact wpAny_pure (hQ _ he')
end
end PySem
noncomputable section
namespace DL
open PySem PySem.Spec PyProof.Rows L2
def IteT (K : PySem.W.Frag) (a : Addr) : It :=
  ⟨fun i H => ∃ (xs : List V) (x : V), SqT K H a xs ∧ xs[i]? = some x, fun i H v H' => ∃ T x, v = .ref T ∧ H T = none ∧ H' = upd H T (.tup [.int (i : Nat), x]) ∧ ∀ xs, SqT K H a xs → xs[i]? = some x, fun i H => ∃ xs : List V, SqT K H a xs ∧ xs.length ≤ i⟩
theorem turn_enumT {P : Program} {w : World} {K : PySem.W.Frag} {elts : List Expr} {kk : Nat} {tpos : Pos} (a e it : Addr) :
    Turn P w K (.Tuple elts kk tpos) (IteT K a) [e, it] e (fun i h => (∃ old, IsEnum h e it ((i : Nat) : Int) old) ∧ h.IsTupleIter it a i ∧ e ≠ it) where
  mem := by simp
  obj := fun i h st b hb => by
    obtain ⟨⟨old, he⟩, ⟨o, ho, hc, hd⟩, _⟩ := st
    have e' : b = e ∨ b = it := by simpa using hb
    rcases e' with z | z
    · rw [z]; exact ⟨_, he, fun v q => nomatch q⟩
    · rw [z]; exact ⟨o, ho, fun v q => by rw [hd] at q; cases q⟩
  keep := fun i h h' st k => let ⟨⟨old, he⟩, hi, hne⟩ := st; ⟨⟨old, k e (by simp) _ he⟩, hi.at fun o q => k it (by simp) o q, hne⟩
  item := by
    intro X hP hw hK hc i pins s σ H E I hf st hg
    subst hP hw hK
    obtain ⟨⟨old, he⟩, hit, hne⟩ := st
    obtain ⟨xs, x, hq, hx⟩ := hg
    obtain ⟨its, rv, p, hz⟩ := I.tuple hq
    obtain ⟨u, hu, ru⟩ := rv.get hx
    have hel : e < s.heap.objs.size := Heap.lt_size he
    have hil : it < s.heap.objs.size := by obtain ⟨_, q, _⟩ := hit; exact Heap.lt_size q
    have p' : s.heap.IsTuple a its.toArray := p
    have hea : e ≠ a := fun z => by
      obtain ⟨o, q, c, _⟩ := p'
      rw [← z] at q
      have he2 : s.heap.get? e = _ := he
      rw [he2] at q
      cases q
      have c' : Value.type "enumerate" = Value.type "tuple" := c
      injection c' with z
      exact absurd z (by decide)
    have hta : a ≠ it := fun z => by
      obtain ⟨o, q, c, _⟩ := p'
      obtain ⟨o2, q2, c2, _⟩ := hit
      rw [z] at q
      rw [q2] at q
      cases q
      rw [c2] at c
      injection c with z
      exact absurd z (by decide)
    have hlt : i < its.toArray.size := by
      have := (List.getElem?_eq_some_iff.mp hu).1
      simpa using this
    refine wpAny_pyNext_enum_itemD (Draws.tuple (A := X.A.in1) (I.ok.hd hc) it a hta its.toArray) he ⟨hit, p'⟩ hlt hne (by simp [hne, hea]) fun x' h' tk hPx ho hst hT hsz hk => ?_
    have hxu : x' = u := by
      have h2 : its.toArray[i]? = some x' := hPx
      have h3 : its.toArray[i]? = some u := by simpa using hu
      rw [h3] at h2
      exact (Option.some.inj h2).symm
    subst hxu
    refine ⟨_, rfl, wpAny_letOwnedTupleGo_enum (s := { s with heap := h', toks := tk + 1 }) ho fun h'' he' sb => ?_⟩
    have hT2 : h''.get? s.heap.objs.size = some { cls := .type "tuple", data := .seq #[.int i tk, x'] } := (sb.2 _ (Nat.ne_of_gt hel)).trans hT
    have new : ObjOk X.prog X.w (upd H s.heap.objs.size (.tup [.int (i : Nat), x])) h'' s.heap.objs.size (.tup [.int (i : Nat), x]) :=
      ⟨by show 2 ≤ sizeLine; decide, [.int i tk, x'], .cons ⟨_, rfl⟩ (.cons ru .nil), ⟨_, hT2, rfl, _, rfl⟩⟩
    have I1 : Inv X pins σ (upd H s.heap.objs.size (.tup [.int (i : Nat), x])) { s with heap := h'', toks := tk + 1 } :=
      I.turnedNew (ch := [e, it]) (fun b ob hb q => (sb.2 b (fun z => hb (by simp [z]))).trans (hk b ob (fun z => hb (by simp [z])) (fun z => hb (by simp [z])) q)) hf (Nat.le_refl _) new
    refine ⟨.ref s.heap.objs.size, _, I1, rfl, ⟨_, x, rfl, I.hok.fresh (Nat.le_refl _), rfl, fun ys hy => by rw [I.tuple_inj hy hq]; exact hx⟩, ⟨⟨x', ?_⟩, hst.1.at fun o q => (sb.2 it (Ne.symm hne)).trans q, hne⟩, fun b hb => ?_⟩
    · have e1 : ((i + 1 : Nat) : Int) = (i : Int) + 1 := by omega
      rw [e1]; exact he'
    · have hb' : b < s.heap.objs.size := by
        have e' : b = e ∨ b = it := by simpa using hb
        rcases e' with z | z
        · rw [z]; exact hel
        · rw [z]; exact hil
      rw [upd_ne (Nat.ne_of_lt hb')]
      exact (hf b hb).1
  done := by
    intro X hP hw hK hc i pins s σ H E I hf st hg
    subst hP hw hK
    obtain ⟨⟨old, he⟩, hit, hne⟩ := st
    obtain ⟨xs, hq, hx⟩ := hg
    obtain ⟨its, rv, p, hz⟩ := I.tuple hq
    have p' : s.heap.IsTuple a its.toArray := p
    obtain ⟨f0, f1, f2, f3, f4, f5⟩ := hf it (by simp)
    have hl := rv.length
    have hta : a ≠ it := fun z => by
      obtain ⟨o, q, c, _⟩ := p'
      obtain ⟨o2, q2, c2, _⟩ := hit
      rw [z] at q
      rw [q2] at q
      cases q
      rw [c2] at c
      injection c with z
      exact absurd z (by decide)
    exact dl_enum_endT (I.ok.hd hc) he hit p' (by simp; omega) fun h' eb => ⟨rfl, I.turned (t' := s.toks) (fun b o hb q => eb b o hb q) f0 f1 f3 f4 f5⟩
  self := fun A i s Q E st h => let ⟨⟨_, he⟩, _⟩ := st; wpAny_pyIter_enum he h
def iEnumT (K : PySem.W.Frag) (ta : TA) : TI := fun σ H R => ta σ H fun vs H1 => ∃ a xs, vs = [.ref a] ∧ SqT K H1 a xs ∧ R (IteT K a) H1
theorem pi_enumT {X : Cx} {e : Expr} {ta : TA} {p pos tpos : Pos} {elts : List Expr} {kk : Nat} (hg : Gl X "enumerate") (hm : X.mg "enumerate" = none) (ha : PA X [e] ta) (hs : starEach [e] X.env = [(false, eval e X.env)] := by rfl) :
    PI X (.Tuple elts kk tpos) (.Call (.Name "enumerate" p) [e] [] pos) (iEnumT X.K ta) := by
  refine ⟨fun pins s σ H R I h => ?_⟩
  refine Call_ (ld_blt I hg hm boot_enumerate (PyProof.Rows.callWith_type1 (thn (ha.run pos pins s σ H _ I h) fun us s1 ⟨vs, H1, I1, r1, q1⟩ => ?_) hs rfl))
  obtain ⟨a, xs, ex, hq, q⟩ := q1
  subst ex
  cases r1 with
  | cons r rr =>
    cases rr
    cases r
    obtain ⟨its, rv, p', hz⟩ := I1.tuple hq
    refine dl_call_enum1 (begins_tuple a its.toArray) p' fun h' he hit hsz hk => wpAny_pyIter_enum he ?_
    have I2 : Inv X pins σ H1 { s1 with heap := h' } := I1.kept (t' := s1.toks) hk
    refine ⟨s1.heap.objs.size + 1, [s1.heap.objs.size + 1, s1.heap.objs.size], _, _, H1, rfl, I2, turn_enumT a (s1.heap.objs.size + 1) s1.heap.objs.size, ⟨⟨.none, he⟩, ⟨_, hit, rfl, rfl⟩, Nat.succ_ne_self _⟩, fun b hb => ?_, q⟩
    have e' : b = s1.heap.objs.size + 1 ∨ b = s1.heap.objs.size := by simpa using hb
    have hle : s1.heap.objs.size ≤ b := by
      rcases e' with z | z
      · rw [z]; exact Nat.le_add_right _ _
      · rw [z]; exact Nat.le_refl _
    exact I1.fpOk hle (I1.hok.fresh hle)
section
variable {K : PySem.W.Frag} {ρ : Rho} {H : Hp} {S : Sto}
theorem iteT_ok {K : KW} {ρ : Rho} {H : Hp} {a : Addr} {ds : List D} {vs : List V} (h : ∀ ρ' H', Ext ρ H ρ' H' → SqT K.k H' a vs) (r : RepL ρ H ds vs) : ItOk K ρ H (IteT K.k a) (enumD 0 ds) := fun ρ' H' S' e s i => by
  have q := h ρ' H' e
  have rl := r.length
  refine ⟨fun hl => ⟨vs, q, by rw [enumD_len] at hl; omega⟩, fun d hd => ?_⟩
  rw [enumD_get, Option.map_eq_some_iff] at hd
  obtain ⟨d0, hd, rfl⟩ := hd
  obtain ⟨v, hv, rv⟩ := r.get hd
  refine ⟨⟨vs, v, q, hv⟩, fun x H'' y => ?_⟩
  obtain ⟨T, x0, rfl, hT, rfl, y⟩ := y
  have := y vs q
  rw [hv] at this; cases this
  refine ⟨Gr.new hT, .tup upd_same (s.fresh hT) (.cons ?_ (.cons ((rv.ext e).ext (Ext.new hT)) .nil))⟩
  rw [Nat.zero_add]
  exact .int _
end
def iEnumV (m : MA) : MI := fun σ S => (m σ S).bind fun r => match r.1 with
  | [w] => (asT w).map fun ds => (enumD 0 ds, r.2)
  | _ => none
theorem di_enumV {X : Cx} {e : Expr} {m : MA} {p pos tpos : Pos} {elts : List Expr} {kk : Nat} (hg : Gl X "enumerate") (hm : X.mg "enumerate" = none) (ha : PDA X [e] m) (hs : starEach [e] X.env = [(false, eval e X.env)] := by rfl) :
    PDI X (.Tuple elts kk tpos) (.Call (.Name "enumerate" p) [e] [] pos) (iEnumV m) := piImp (pi_enumT hg hm ha hs) fun σ H R ⟨ρ, σd, S, ds, S', hs, hE, hm, q⟩ => by
  obtain ⟨⟨ws, S1⟩, h1, hm⟩ := Option.bind_eq_some_iff.mp hm
  dsimp only at hm
  split at hm
  · rename_i w
    rw [Option.map_eq_some_iff] at hm
    obtain ⟨ds', h2, h3⟩ := hm
    cases h3
    refine ⟨ρ, σd, S, _, _, hs, hE, h1, fun ρ1 vs H1 e1 s1 r1 => ?_⟩
    obtain ⟨v, rfl, r⟩ := r1.one
    obtain ⟨a, us, rfl, hq, hr⟩ := asT_stays r h2
    exact ⟨a, us, rfl, hq ρ1 H1 .refl, q ρ1 _ H1 e1 s1 (iteT_ok hq hr)⟩
  · cases hm
end DL

set_option Elab.async false
set_option linter.all false
set_option maxRecDepth 100000
set_option autoImplicit false
/-! max, min of a tuple of ints. -/
noncomputable section
namespace DL
open PySem PySem.Spec PyProof.Rows L2
section
variable {X : Cx}
theorem foldl_maxL (ns : List Int) : ∀ n : Int, ns.foldl max n = maxL n ns := by
  induction ns with
  | nil => intro n; rfl
  | cons m ms ih =>
    intro n
    rw [List.foldl_cons, ih]
    show maxL (max n m) ms = maxL (if m > n then m else n) ms
    congr 1
    split <;> omega
theorem foldl_minL (ns : List Int) : ∀ n : Int, ns.foldl min n = minL n ns := by
  induction ns with
  | nil => intro n; rfl
  | cons m ms ih =>
    intro n
    rw [List.foldl_cons, ih]
    show minL (min n m) ms = minL (if m < n then m else n) ms
    congr 1
    split <;> omega
def vMaxT (S : Sto) (x : W) : Option W := (asT x).bind fun ds => (intsOf ds).bind fun ns => match ns with
  | [] => none
  | m :: ms => some (.d (.int (maxL m ms)))
def vMinT (S : Sto) (x : W) : Option W := (asT x).bind fun ds => (intsOf ds).bind fun ns => match ns with
  | [] => none
  | m :: ms => some (.d (.int (minL m ms)))
theorem alike_ints (ns : List Int) : PySem.W.AlikeAll (ns.map PyData.int) := by
  refine ⟨fun x hx y hy => ?_, fun x hx => ?_⟩
  · obtain ⟨a, _, rfl⟩ := List.mem_map.mp hx
    obtain ⟨b, _, rfl⟩ := List.mem_map.mp hy
    rfl
  · obtain ⟨a, _, rfl⟩ := List.mem_map.mp hx
    intro z; cases z
theorem dep_ints (ns : List Int) : PyData.depthAll (ns.map PyData.int) ≤ 0 := by
  induction ns with
  | nil => simp [PyData.depthAll]
  | cons n ns ih => simp only [List.map_cons, PyData.depthAll, PyData.depth]; omega
theorem c_maxT (hc : X.calm = true) (hu : X.A.units + 64 < cLine) : CallD X (.builtin "max") (pure1 vMaxT) := call1_of fun pins s σ H v u Q ρ S x w I r hs rx hg0 q => by
  obtain ⟨ds, h1, hg⟩ := Option.bind_eq_some_iff.mp hg0
  clear hg0
  obtain ⟨ns, h2, hg2⟩ := Option.bind_eq_some_iff.mp hg
  clear hg
  have := intsOf_eq h2
  subst this
  obtain ⟨a, vs, rfl, h3, h4⟩ := asT_rel rx h1
  have := h4.ints
  subst this
  cases ns with
  | nil => cases hg2
  | cons m ms =>
    cases hg2
    obtain rfl : u = Value.ref a := r
    obtain ⟨its, rv, ht, _⟩ := I.tuple h3
    obtain ⟨as, hr⟩ := Dp.readsAll I ((m :: ms).map PyData.int) _ _ (RepL.dp h4) rv
    have hd := dep_ints (m :: ms)
    refine PySem.W.max_tuple_data (x := .int m) (xs := ms.map PyData.int) (I.ok.hd hc) (show s.heap.IsTuple a its.toArray from ht) (by simpa using hr) (alike_ints (m :: ms)) (by
      have hd' : PyData.depthAll (PyData.int m :: List.map PyData.int ms) ≤ 0 := hd
      omega) fun i v h' tk bs hv hr' hk => ?_
    rw [PySem.W.maxD_ints, foldl_maxL] at hr'
    generalize maxL m ms = z at *
    cases hr'
    exact ⟨.int z, H, I.kept hk, ⟨_, rfl⟩, q ρ _ H .refl hs (.int _)⟩
theorem c_minT (hc : X.calm = true) (hu : X.A.units + 64 < cLine) : CallD X (.builtin "min") (pure1 vMinT) := call1_of fun pins s σ H v u Q ρ S x w I r hs rx hg0 q => by
  obtain ⟨ds, h1, hg⟩ := Option.bind_eq_some_iff.mp hg0
  clear hg0
  obtain ⟨ns, h2, hg2⟩ := Option.bind_eq_some_iff.mp hg
  clear hg
  have := intsOf_eq h2
  subst this
  obtain ⟨a, vs, rfl, h3, h4⟩ := asT_rel rx h1
  have := h4.ints
  subst this
  cases ns with
  | nil => cases hg2
  | cons m ms =>
    cases hg2
    obtain rfl : u = Value.ref a := r
    obtain ⟨its, rv, ht, _⟩ := I.tuple h3
    obtain ⟨as, hr⟩ := Dp.readsAll I ((m :: ms).map PyData.int) _ _ (RepL.dp h4) rv
    have hd := dep_ints (m :: ms)
    refine PySem.W.min_tuple_data (x := .int m) (xs := ms.map PyData.int) (I.ok.hd hc) (show s.heap.IsTuple a its.toArray from ht) (by simpa using hr) (alike_ints (m :: ms)) (by
      have hd' : PyData.depthAll (PyData.int m :: List.map PyData.int ms) ≤ 0 := hd
      omega) fun i v h' tk bs hv hr' hk => ?_
    rw [PySem.W.minD_ints, foldl_minL] at hr'
    generalize minL m ms = z at *
    cases hr'
    exact ⟨.int z, H, I.kept hk, ⟨_, rfl⟩, q ρ _ H .refl hs (.int _)⟩
end
end DL

set_option Elab.async false
set_option linter.all false
set_option maxRecDepth 100000
set_option autoImplicit false
/-! The data layer: t[::-1] of a tuple, tuple * int, str(int). -/
noncomputable section
namespace HT
open PySem PyProof.Rows
section
variable {prog : Program} {w : World} {A : Around} {E : Value → Shared → Prop} {s : Shared}
theorem adjust_back (n : Nat) : Builtin.Slice.sliceAdjust none none (-1) (n : Int) = ((n : Int) - 1, -1) := by
  unfold Builtin.Slice.sliceAdjust
  simp
theorem places_back (n : Nat) : Builtin.Slice.slicePlaces ((n : Int) - 1) (-1) (-1) = n := by
  unfold Builtin.Slice.slicePlaces
  have h1 : ¬ ((-1 : Int) > 0) := by omega
  simp only [h1, if_false]
  by_cases h : n = 0
  · subst h; decide
  · rw [if_pos (by omega)]
    simp
theorem sliceApplied_back {sl : Addr} {vl vu vs : Value} {n : Nat} {Q : Int × Int × Nat → Shared → Prop} (hs : s.heap.IsSliceOf sl vl vu vs) (pl : IsPart vl none) (pu : IsPart vu none) (ps : IsPart vs (some (-1)))
    (h : Q ((n : Int) - 1, -1, n) s) : wpAny (model prog w) A (Builtin.Slice.sliceApplied (.ref sl) (pure (n : Int))) Q E s := by
  obtain ⟨os, hos, hcs, hds⟩ := id hs
  unfold Builtin.Slice.sliceApplied Builtin.Slice.sliceFields
  refine wpAny_bind (wpAny_bind (wpAny_field hos hds (x := vl) rfl (wpAny_bind (wpAny_field hos hds (x := vu) rfl (wpAny_bind (wpAny_field hos hds (x := vs) rfl (wpAny_pure ?_)))))))
  refine wpAny_bind (slicePart_ ps ?_)
  show wpAny _ _ (if ((-1 : Int) == 0) = true then _ else _) _ _ s
  rw [if_neg (by decide)]
  refine wpAny_bind (slicePart_ pl (wpAny_bind (slicePart_ pu (wpAny_bind (wpAny_pure ?_)))))
  show wpAny _ _ (match Builtin.Slice.sliceAdjust none none (-1) (n : Int) with | (lo, hi) => pure (lo, (-1 : Int), Builtin.Slice.slicePlaces lo hi (-1))) _ _ s
  rw [adjust_back n]
  show wpAny _ _ (pure ((n : Int) - 1, (-1 : Int), Builtin.Slice.slicePlaces ((n : Int) - 1) (-1) (-1))) _ _ s
  rw [places_back]
  exact wpAny_pure h
theorem pick_back (xs : Array Value) : ((List.range xs.size).filterMap fun (m : Nat) => xs[(((xs.size : Nat) : Int) - 1 + (m : Int) * (-1)).toNat]?).toArray = xs.toList.reverse.toArray := by
  congr 1
  have e : (List.range xs.size).filterMap (fun (m : Nat) => xs[(((xs.size : Nat) : Int) - 1 + (m : Int) * (-1)).toNat]?) = (List.range xs.size).filterMap (fun m => xs.toList.reverse[m]?) := by
    have cong : ∀ (l : List Nat) (f g : Nat → Option Value), (∀ m ∈ l, f m = g m) → l.filterMap f = l.filterMap g := by
      intro l f g h
      induction l with
      | nil => rfl
      | cons a l ih => rw [List.filterMap_cons, List.filterMap_cons, h a (by simp), ih fun m hm => h m (by simp [hm])]
    refine cong _ _ _ fun m hm => ?_
    have hm := List.mem_range.mp hm
    rw [List.getElem?_reverse (by simpa using hm)]
    have : (((xs.size : Nat) : Int) - 1 + (m : Int) * (-1)).toNat = xs.toList.length - 1 - m := by rw [Array.length_toList]; omega
    rw [this, Array.getElem?_toList]
  rw [e]
  apply List.ext_getElem?
  intro i
  have hall : ∀ (l : List Value), (List.range l.length).filterMap (fun m => l[m]?) = l := by
    intro l
    induction l with
    | nil => rfl
    | cons a l ih =>
      rw [List.length_cons, List.range_succ_eq_map, List.filterMap_cons]
      simp only [List.getElem?_cons_zero, List.filterMap_map]
      congr 1
  have := hall xs.toList.reverse
  rw [List.length_reverse, Array.length_toList] at this
  rw [this]
theorem getItem_tuple_back {t sl : Addr} {items : Array Value} {vl vu vs : Value} {Q : Value → Shared → Prop} (ht : IsTup s.heap t items) (hs : s.heap.IsSliceOf sl vl vu vs) (pl : IsPart vl none) (pu : IsPart vu none) (ps : IsPart vs (some (-1)))
    (h : Q (.ref s.heap.objs.size) { s with heap := s.heap.push { cls := .type "tuple", data := .seq items.toList.reverse.toArray } })
    (hsz : items.size ≤ sizeLine) : wpAny (model prog w) A (getItem (.ref t) (.ref sl)) Q E s := by
  have htake : sizeOk (.seq items.toList.reverse.toArray) := by
    show items.toList.reverse.toArray.size ≤ sizeLine
    rw [List.size_toArray, List.length_reverse, Array.length_toList]
    exact hsz
  obtain ⟨os, hos, hcs, hds⟩ := id hs
  have hTs : s.TypeIs (.ref sl) "slice" := ⟨os, hos, hcs⟩
  unfold getItem
  try with_reducible refine wpAny_holding ?_
  first | refine wpAny_bind (wpAny_pure ?_) | skip
  refine wpAny_bind (wpAny_sequenceKey ht.typeIs (by decide) ?_)
  refine wpAny_bind (wpAny_callSpecial?_slot (name := Str.ofString "__getitem__") ht.typeIs PyProof.Rows.slot_tuple_getitem
    (wpAny_call_entry PyProof.Rows.slot_tuple_getitem ht.typeIs entry_tuple_getitem ?_ (args_tuple_getitem _ _)))
  show wpAny _ _ (Builtin.Tuple.tupleItemsOf (.ref t) >>= _) _ _ s
  refine wpAny_bind (tupleItemsOf_ ht ?_)
  refine wpAny_bind (wpAny_typeOf hTs ?_)
  rw [if_pos (by decide)]
  refine wpAny_bind (sliceApplied_back hs pl pu ps ?_)
  have hno : ¬ ((((items.size : Nat) : Int) - 1 == 0 && (-1 : Int) == 1 && items.size == items.size) = true) := by
    intro q
    rw [Bool.and_eq_true, Bool.and_eq_true] at q
    exact absurd q.1.2 (by decide)
  show wpAny _ _ (if (((items.size : Nat) : Int) - 1 == 0 && (-1 : Int) == 1 && items.size == items.size) = true then _ else _) _ _ s
  rw [if_neg hno, pick_back]
  first
    | exact wpAny_bind (m := Builtin.Tuple.tupleExact _) (wpAny_newObj_type (wpAny_pure ⟨_, rfl, wpAny_pure h⟩) htake)
    | exact wpAny_bind (m := Builtin.Tuple.tupleExact _) (wpAny_newObj_type (wpAny_bind (wpAny_pure (wpAny_pure ⟨_, rfl, wpAny_pure h⟩))) htake)
    | exact wpAny_bind (wpAny_bind (m := Builtin.Tuple.tupleExact _) (wpAny_newObj_type (wpAny_pure (wpAny_pure ⟨_, rfl, wpAny_pure h⟩)) htake))
    | exact wpAny_bind (wpAny_bind (m := Builtin.Tuple.tupleExact _) (wpAny_newObj_type (wpAny_pure ⟨_, rfl, wpAny_pure h⟩) htake))
end
end HT
namespace DL
open PySem PySem.Spec PyProof.Rows L2
section
variable {X : Cx}
def tRevT (K : KW) (te : TE) : TE := fun σ H Q => te σ H fun x H1 => ∃ a xs, x = .ref a ∧ SqT K.k H1 a xs ∧ ∀ p, H1 p = none → Q (.ref p) (upd H1 p (.tup xs.reverse))
theorem pe_revT {e : Expr} {te : TE} {k : Nat} {p1 p2 p3 pos : Pos} (he : PE X e te) : PE X (.Subscript e (.Slice none none (some (.UnaryOp .USub (.Constant (.int 1) k p1) p2)) p3) pos) (tRevT (kwOf X) te) := by
  refine ⟨fun pins s σ H Q I h => ?_⟩
  refine Subscript_ (thn (he.run pins s σ H _ I h) fun v s1 ⟨x, H1, I1, r1, q1⟩ => ?_)
  obtain ⟨a, xs, ex, hx, q⟩ := q1
  subst ex
  cases r1
  have hst : PO X (some (.UnaryOp .USub (.Constant (.int 1) k p1) p2)) (tPart (tUn (rU fun i => .int (-i)) (tC (.int 1)))) := po_some (pe_un un_neg pe_int)
  refine wpAny_Slice (thn (po_none.run pins s1 σ H1 (fun o H2 => o = none ∧ H2 = H1) I1 ⟨rfl, rfl⟩) fun vl s2 ⟨l, H2, I2, pl, el, e2⟩ => ?_)
  subst el e2
  refine thn (po_none.run pins s2 σ H2 (fun o H3 => o = none ∧ H3 = H2) I2 ⟨rfl, rfl⟩) fun vu s3 ⟨u, H3, I3, pu, eu, e3⟩ => ?_
  subst eu e3
  refine thn (hst.run pins s3 σ H3 (fun o H4 => o = some (-1) ∧ H4 = H3) I3 ⟨1, rfl, -1, rfl, rfl, rfl⟩) fun vs s4 ⟨o, H4, I4, ps, eo, e4⟩ => ?_
  subst eo e4
  have I5 : Inv X pins σ H4 { s4 with heap := s4.heap.push { cls := .type "slice", data := .fields #[vl, vu, vs] } } := I4.kept (t' := s4.toks) fun b ob q => Heap.get?_push_of_some _ q
  obtain ⟨its, r, ht, hz⟩ := I5.tuple hx
  have hlen := r.length
  show wpAny (model X.prog X.w) X.A (subscriptTail e (.Slice none none (some (.UnaryOp .USub (.Constant (.int 1) k p1) p2)) p3) (.ref a) (.ref s4.heap.objs.size)) (EP X pins σ Q) X.xe { s4 with heap := s4.heap.push { cls := .type "slice", data := .fields #[vl, vu, vs] } }
  refine tail_any (ops := [.ref a, .ref s4.heap.objs.size]) ht.typeIs PyProof.Rows.slot_tuple_getitem.lookup ?_ (by with_unfolding_all rfl)
  refine HT.getItem_tuple_back ht (Heap.IsSliceOf.new _ vl vu vs) pl pu ps ?_ (by rw [List.size_toArray]; omega)
  refine ⟨.ref _, _, I5.laid (t' := s4.toks) (o := .tup xs.reverse) (fun b ob q => Heap.get?_push_of_some _ q) (Nat.le_refl _) ?_, rfl, q _ (I5.hok.fresh (Nat.le_refl _))⟩
  exact ⟨by rw [List.length_reverse]; exact hz, _, r.reverse, IsTup.new _ _⟩
/-- t[::-1] of a tuple -/
@[simp] def mRevT (o : ME) : ME := fun σ S => (o σ S).bind fun r => (asT r.1).map fun ds => (.d (.tuple ds.reverse), r.2)
theorem d_revT {e : Expr} {k : Nat} {p1 p2 p3 pos : Pos} {m : ME} (he : PD X e m) : PD X (.Subscript e (.Slice none none (some (.UnaryOp .USub (.Constant (.int 1) k p1) p2)) p3) pos) (mRevT m) :=
  peImp (pe_revT he) fun σ H Q ⟨ρ, σd, S, w, S', hs, hE, hm, q⟩ => by
    obtain ⟨⟨w1, S1⟩, h1, hm⟩ := Option.bind_eq_some_iff.mp hm
    rw [Option.map_eq_some_iff] at hm
    obtain ⟨ds, h2, h3⟩ := hm
    cases h3
    refine ⟨ρ, σd, S, w1, S1, hs, hE, h1, fun ρ1 v1 H1 e1 s1 r1 => ?_⟩
    obtain ⟨a, vs, rfl, hq, hr⟩ := asT_rel r1 h2
    exact ⟨a, vs, rfl, hq, fun p hp => q ρ1 _ _ (e1.trans (Ext.new hp)) (s1.new hp) (.tup upd_same (s1.fresh hp) (hr.reverse.ext (Ext.new hp)))⟩
/-! tuple * int -/
theorem tuple_mul1 (l : Addr) (items : Array Value) (n : Nat) (dd : Option Addr) (sl : Array (Option Value)) (x : Int) (u : Tok) (c0 : (decide (x < -(2 ^ 63)) || decide (x ≥ 2 ^ 63)) = false) (c1 : (items.isEmpty || x == 1) = true) :
    Meets (Builtin.«tuple.__mul__» ⟨[.ref l, .int x u], []⟩) (fun _ R s => s.heap.get? l = some { cls := .type "tuple", dict := dd, data := .seq items n, slots := sl } ∧ R (.ok (.ret (Value.ref l))) s) :=
  .of_wp fun prog w A R s h => by
    obtain ⟨hp, g, d, tk, os⟩ := s
    obtain ⟨hl, h⟩ := h
    have f1 := AutoSeq1.idx_int
    wp_walk using wpAny_loadPart' hl
    repeat (first
      | (refine wpAny_ite_false (decide_eq_false (by rw [c0]; exact Bool.false_ne_true)) ?_; wp_walk using wpAny_loadPart' hl)
      | (refine wpAny_ite_true (decide_eq_true c1) ?_; wp_walk using wpAny_loadPart' hl))
    exact ⟨_, rfl, h⟩
theorem tuple_mul0 (l : Addr) (items : Array Value) (n : Nat) (dd : Option Addr) (sl : Array (Option Value)) (x : Int) (u : Tok) (c0 : (decide (x < -(2 ^ 63)) || decide (x ≥ 2 ^ 63)) = false) (c1 : (items.isEmpty || x == 1) = false) (c2 : (decide (x ≤ 0) || items.isEmpty) = true) :
    Meets (Builtin.«tuple.__mul__» ⟨[.ref l, .int x u], []⟩) (fun _ R s => s.heap.get? l = some { cls := .type "tuple", dict := dd, data := .seq items n, slots := sl } ∧
      R (.ok (.ret (Value.ref s.heap.objs.size))) { s with heap := s.heap.push { cls := Value.type "tuple", data := Data.seq #[] }, toks := s.toks }) :=
  .of_wp fun prog w A R s h => by
    obtain ⟨hp, g, d, tk, os⟩ := s
    obtain ⟨hl, h⟩ := h
    have f1 := AutoSeq1.idx_int
    have hsz : (#[] : Array Value).size ≤ sizeLine := by decide
    wp_walk using wpAny_loadPart' hl
    repeat (first
      | (refine wpAny_ite_false (decide_eq_false (by rw [c0]; exact Bool.false_ne_true)) ?_; wp_walk using wpAny_loadPart' hl)
      | (refine wpAny_ite_false (decide_eq_false (by rw [c1]; exact Bool.false_ne_true)) ?_; wp_walk using wpAny_loadPart' hl)
      | (refine wpAny_ite_true (decide_eq_true c2) ?_; wp_walk using wpAny_loadPart' hl)
      | (refine wpAny_ite_false (decide_eq_false (Nat.not_lt.mpr hsz)) ?_; wp_walk using wpAny_loadPart' hl))
    exact ⟨_, rfl, h⟩
def rRepA (K : KW) : R2 := fun x y H Q => ∃ l k xs, x = .ref l ∧ y = .int k ∧ SqT K.k H l xs ∧ -1000 ≤ k ∧ k ≤ 1000 ∧ xs.length ≤ 1000 ∧
  (xs = [] ∨ k = 1 → Q (.ref l) H) ∧ (xs ≠ [] → k ≠ 1 → ∀ p, H p = none → Q (.ref p) (upd H p (.tup (List.replicate k.toNat xs).flatten)))
theorem op_repA : OpR X (binaryOp .Mult) (rRepA (kwOf X)) := by
  intro pins s σ H x y v u Q I rx ry h
  obtain ⟨l, k, xs, rfl, rfl, hT, h1, h2, hz, q1, q2⟩ := h
  by_cases hb : xs ≠ [] ∧ 2 ≤ k
  · exact op_repT pins s σ H _ _ v u Q I rx ry ⟨l, k, xs, rfl, rfl, hT, hb.1, hb.2, h2, hz, q2 hb.1 (by omega)⟩
  cases rx
  obtain ⟨t, rfl⟩ := ry
  obtain ⟨its, r, ⟨⟨cls, dd, data, sl⟩, ho, hc, n, hd⟩, hs⟩ := I.tuple hT
  simp only at hc hd
  subst hc hd
  have hle : its.length = xs.length := r.length.symm
  have hi : its.toArray.isEmpty = decide (xs = []) := by
    cases xs with
    | nil => cases its with
      | nil => rfl
      | cons a b => cases hle
    | cons c d => cases its with
      | nil => cases hle
      | cons a b => simp
  have c0 : (decide (k < -(2 ^ 63)) || decide (k ≥ 2 ^ 63)) = false := by
    rw [decide_eq_false (by omega), decide_eq_false (by omega)] <;> rfl
  by_cases hs1 : xs = [] ∨ k = 1
  · refine wpAny_binaryOp_repeat_ref (T := "tuple") (U := "int") (by decide) ⟨_, ho, rfl⟩ (fun s' => typeIs_int s' k t) noFill_tuple_mul F.fills_int_mul F.slot_int_rmul repeat_tuple F.slot_int_index.lookup
      (call_meets F.slot_int_rmul (typeIs_int s k t) F.entry_int_rmul (F.args_int_rmul_2 _ _) (int_rmul_tuple k t l its.toArray n dd sl)
        ⟨ho, rfl, ⟨_, ho, rfl⟩, call_meets F.slot_tuple_mul ⟨_, ho, rfl⟩ F.entry_tuple_mul (F.args_tuple_mul_2 _ _) (tuple_mul1 l its.toArray n dd sl k t c0 (by rw [hi]; simpa using hs1)) ⟨ho, ?_⟩⟩)
    exact ⟨.ref l, H, I, rfl, q1 hs1⟩
  · have hx : xs ≠ [] := fun z => hs1 (.inl z)
    have hk : k ≠ 1 := fun z => hs1 (.inr z)
    have hk0 : k ≤ 0 := by
      by_cases z : 2 ≤ k
      · exact absurd ⟨hx, z⟩ hb
      · omega
    refine wpAny_binaryOp_repeat_ref (T := "tuple") (U := "int") (by decide) ⟨_, ho, rfl⟩ (fun s' => typeIs_int s' k t) noFill_tuple_mul F.fills_int_mul F.slot_int_rmul repeat_tuple F.slot_int_index.lookup
      (call_meets F.slot_int_rmul (typeIs_int s k t) F.entry_int_rmul (F.args_int_rmul_2 _ _) (int_rmul_tuple k t l its.toArray n dd sl)
        ⟨ho, rfl, ⟨_, ho, rfl⟩, call_meets F.slot_tuple_mul ⟨_, ho, rfl⟩ F.entry_tuple_mul (F.args_tuple_mul_2 _ _) (tuple_mul0 l its.toArray n dd sl k t c0 (by rw [hi]; simp [hx, hk]) (by simp [hk0])) ⟨ho, ?_⟩⟩)
    have e0 : (List.replicate k.toNat xs).flatten = [] := by
      rw [Int.toNat_of_nonpos hk0]; rfl
    have q3 := q2 hx hk
    rw [e0] at q3
    refine ⟨.ref s.heap.objs.size, _, I.laid (t' := s.toks) (o := .tup []) (fun b ob q => Heap.get?_push_of_some _ q) (Nat.le_refl _) ?_, rfl, q3 _ (I.hok.fresh (Nat.le_refl _))⟩
    exact ⟨Nat.zero_le _, _, .nil, IsTup.new _ _⟩
theorem RepL.flat {ρ : Rho} {H : Hp} {ds : List D} {vs : List V} (h : RepL ρ H ds vs) : ∀ n : Nat, RepL ρ H (List.replicate n ds).flatten (List.replicate n vs).flatten
  | 0 => .nil
  | n + 1 => by
    rw [List.replicate_succ, List.replicate_succ, List.flatten_cons, List.flatten_cons]
    exact h.append (h.flat n)
def repOk (n : Nat) (k : Int) : Bool := says (-1000 ≤ k ∧ k ≤ 1000 ∧ n ≤ 1000)
def vRepT : G2 := fun S x y => match x, y with
  | .d (.tuple ds), .d (.int k) => if repOk ds.length k = true then some (.d (.tuple (List.replicate k.toNat ds).flatten)) else none
  | _, _ => none
theorem o_repT : OpD X (binaryOp .Mult) vRepT := by
  rintro pins s σ H v u v' u' Q I r1 r2 ⟨ρ, S, x, y, w, hs, rx, ry, hg, q⟩
  unfold vRepT at hg
  split at hg
  · rename_i ds k
    obtain ⟨hf, hg⟩ := some_if hg
    cases hg
    have hf := says_of hf
    cases ry
    obtain ⟨a, vs, rfl, h1, h2, h3⟩ := rep_tup rx
    have hl := h3.length
    refine op_repA pins s σ H _ _ _ _ Q I r1 r2 ⟨a, k, vs, rfl, rfl, SqT.of h1, hf.1, hf.2.1, by omega, fun z => ?_, fun _ _ p hp => ?_⟩
    · have e : (List.replicate k.toNat ds).flatten = ds := by
        rcases z with z | z
        · subst z
          have : ds = [] := List.eq_nil_of_length_eq_zero hl
          subst this
          simp
        · subst z
          simp
      rw [e] at q
      exact q ρ _ H .refl hs (.tup h1 h2 h3)
    · exact q ρ _ _ (Ext.new hp) (hs.new hp) (.tup upd_same (hs.fresh hp) ((h3.flat k.toNat).ext (Ext.new hp)))
  · cases hg
/-! str(i) -/
def strOk (i : Int) : Bool := says (i.natAbs.log2 < 1920)
def vStr (S : Sto) (x : W) : Option W := match x with
  | .d (.int i) => if strOk i = true then some (.d (.str (toString i))) else none
  | _ => none
theorem c_str : CallD X (.type "str") (pure1 vStr) := call1_by call_str_int fun H v Q ρ S x w hs rx hg q => by
  unfold vStr at hg
  split at hg
  · rename_i i
    obtain ⟨hf, hg⟩ := some_if hg
    cases hg
    cases rx
    exact ⟨i, rfl, says_of hf, q ρ _ H .refl hs (.str _)⟩
  · cases hg
end
end DL

set_option Elab.async false
set_option linter.all false
set_option maxRecDepth 100000
set_option autoImplicit false
/-! The data layer: an own list, walked in a comprehension that leaves it as it is. -/
noncomputable section
namespace DL
open PySem PySem.Spec PyProof.Rows L2
abbrev MIo := Env → Sto → Option ((Nat × List D × List D) × Sto)
def ItOkO (K : KW) (ρ0 : Rho) (H0 : Hp) (J : It) (n : Nat) (cs ds : List D) : Prop := ∀ ρ H S, Ext ρ0 H0 ρ H → SRel K ρ H S → S[n]? = some (.lst cs) → ∀ i : Nat,
  (ds.length ≤ i → J.stop i H) ∧ ∀ d, ds[i]? = some d → J.go i H ∧ ∀ x H', J.yld i H x H' → Gr H H' ∧ Rep ρ H' d x
def iDo (K : KW) (m : MIo) : TI := fun σ H R => ∃ ρ σd S r S', SRel K ρ H S ∧ RelE K ρ H σd σ ∧ m σd S = some (r, S') ∧ ∀ ρ' J H', Ext ρ H ρ' H' → SRel K ρ' H' S' → ItOkO K ρ' H' J r.1 r.2.1 r.2.2 → R J H'
abbrev PDIo (X : Cx) (tg e : Expr) (m : MIo) : Prop := PI X tg e (iDo (kwOf X) m)
@[simp] def compO1 (g : MG) (t : MT) (m : ME) (r : Env → Sto → List D → Option (List D × Sto)) : List D → Env → Sto → List D → Option (List D × Sto)
  | [], _, S, acc => some (acc, S)
  | d :: _, σ, S, acc => (g (.d d) σ).bind fun σ1 => (t σ1 S).bind fun k => if k.1 = true then (m σ1 k.2).bind fun q => (asD1 q.1).bind fun x => if fits (acc.length + 1) = true then r σ q.2 (acc ++ [x]) else none
    else r σ k.2 acc
def compO (n : Nat) (cs : List D) (g : MG) (t : MT) (m : ME) : List D → Env → Sto → List D → Option (List D × Sto)
  | [], σ, S, acc => if says (S[n]? = some (.lst cs)) = true then some (acc, S) else none
  | d :: ds, σ, S, acc => if says (S[n]? = some (.lst cs)) = true then compO1 g t m (compO n cs g t m ds) (d :: ds) σ S acc else none
theorem compO_says {n : Nat} {cs : List D} {g : MG} {t : MT} {m : ME} {ds : List D} {σ : Env} {S : Sto} {acc : List D} {r : List D × Sto} (h : compO n cs g t m ds σ S acc = some r) :
    S[n]? = some (.lst cs) ∧ compO1 g t m (compO n cs g t m ds.tail) ds σ S acc = some r := by
  cases ds with
  | nil =>
    unfold compO at h
    split at h
    · rename_i q; exact ⟨says_of q, h⟩
    · cases h
  | cons d ds =>
    unfold compO at h
    split at h
    · rename_i q; exact ⟨says_of q, h⟩
    · cases h
theorem compO1_cons {n : Nat} {cs : List D} {g : MG} {t : MT} {m : ME} {d : D} {ds : List D} {σ : Env} {S : Sto} {acc : List D} {r : List D × Sto} (h : compO1 g t m (compO n cs g t m (d :: ds).tail) (d :: ds) σ S acc = some r) :
    ((g (.d d) σ).bind fun σ1 => (t σ1 S).bind fun k => if k.1 = true then (m σ1 k.2).bind fun q => (asD1 q.1).bind fun x => if fits (acc.length + 1) = true then compO n cs g t m ds σ q.2 (acc ++ [x]) else none
    else compO n cs g t m ds σ k.2 acc) = some r := h
@[simp] def mCompO (mi : MIo) (g : MG) (t : MT) (m : ME) (vs : List Nat) : ME := fun σ S => (mi σ S).bind fun r => (compO r.1.1 r.1.2.1 g t m r.1.2.2 (wipeD σ vs) r.2 []).map fun q => (.d (.list q.1), q.2)
theorem compO_of {K : KW} {mi : MIo} {g : MG} {mt : MT} {m : ME} {vs : List Nat} {σ : L2.St} {H : Hp} {Q : VK}
    (h : tD K (mCompO mi g mt m vs) σ H Q) : tLc (iDo K mi) (gC K vs g) (tDT K mt) (tD K m) vs σ H Q := by
  obtain ⟨ρ, σd, S, w, S', hs, he, hm, q⟩ := h
  obtain ⟨⟨⟨nn, cs, ds⟩, S1⟩, h1, hm⟩ := Option.bind_eq_some_iff.mp hm
  rw [Option.map_eq_some_iff] at hm
  obtain ⟨⟨out, S2⟩, h2, h3⟩ := hm
  cases h3
  refine ⟨ρ, σd, S, ⟨nn, cs, ds⟩, S1, hs, he, h1, fun ρ1 J H1 e1 s1 iok => ?_⟩
  intro Dd hD
  have hbl := block_mv (ρ := ρ1) (o := .lst []) hD
  have e0 : Ext ρ1 H1 (ρ1.block Dd) (upd H1 Dd (.lst [])) := ⟨fun a o ha na => ⟨(Ext.new (ρ := ρ1) hD).keep a o ha na |>.1, na⟩, fun _ _ _ h => h, Nat.le_refl _, none_of_upd, fun a h => (List.mem_cons.mp h).elim (fun z => .inr (z ▸ hD)) .inl, fun a h => List.mem_cons_of_mem _ h⟩
  refine ⟨fun i n H' => n = ds.length - i ∧ ∃ ρ' S' acc us, Ext ρ1 H1 ρ' H' ∧ Dd ∈ ρ'.b ∧ SRel K ρ' H' S' ∧ RelE K ρ' H' (wipeD σd vs) (L2.wipe σ vs) ∧ H' Dd = some (.lst us) ∧ RepL ρ' H' acc us ∧ compO nn cs g mt m (ds.drop i) (wipeD σd vs) S' acc = some (out, S2), ?_, ?_⟩
  · exact ⟨ds.length, rfl, ρ1.block Dd, S1, [], [], e0, List.mem_cons_self, s1.blocked hD, ((he.ext e1).wipe vs).mv hbl rfl, upd_same, .nil, by simpa using h2⟩
  rintro i n H2 ⟨rfl, ρ2, S3, acc, us, e2, b2, s2, he2, hD2, ra, hf⟩
  have nD2 : some Dd ∉ ρ2.l := (s2.blk Dd b2).2
  obtain ⟨hsay, hf⟩ := compO_says hf
  obtain ⟨stop, go⟩ := iok _ H2 S3 e2 s2 hsay i
  by_cases hi : i < ds.length
  · obtain ⟨d, hd⟩ : ∃ d, ds[i]? = some d := ⟨ds[i], by simp [hi]⟩
    obtain ⟨hgo, hy⟩ := go d hd
    have hdr : ds.drop i = d :: ds.drop (i + 1) := by
      rw [List.drop_eq_getElem_cons hi]
      congr 1
      have := List.getElem?_eq_getElem hi
      rw [this] at hd
      exact Option.some.inj hd
    rw [hdr] at hf
    have hf := compO1_cons hf
    obtain ⟨σ3, h3, hf⟩ := Option.bind_eq_some_iff.mp hf
    obtain ⟨⟨k, S4⟩, h4, hf⟩ := Option.bind_eq_some_iff.mp hf
    refine .inr ⟨hgo, fun H' => ∃ ρ' S' acc us, Ext ρ1 H1 ρ' H' ∧ Dd ∈ ρ'.b ∧ SRel K ρ' H' S' ∧ RelE K ρ' H' (wipeD σd vs) (L2.wipe σ vs) ∧ H' Dd = some (.lst us) ∧ RepL ρ' H' acc us ∧ compO nn cs g mt m (ds.drop (i + 1)) (wipeD σd vs) S' acc = some (out, S2), fun H' hN => ⟨ds.length - (i + 1), by omega, rfl, hN⟩, ?_⟩
    intro x H3 hyl
    obtain ⟨gr, rx⟩ := hy x H3 hyl
    have e3 : Ext ρ2 H2 ρ2 H3 := Ext.gr gr
    refine ⟨ρ2, wipeD σd vs, S3, .d d, σ3, s2.gr gr, he2.ext e3, rx, h3, fun ρ4 σ4 H4 e4 s4 r4 w4 => ⟨by rw [w4, wipe_idem], ?_⟩⟩
    refine ⟨ρ4, σ3, S3, k, S4, s4, r4, h4, fun ρ5 H5 e5 s5 => ?_⟩
    have e25 : Ext ρ2 H2 ρ5 H5 := (e3.trans e4).trans e5
    obtain ⟨hD5, nD5⟩ := e25.keep _ _ hD2 nD2
    cases k with
    | true =>
      dsimp only at hf ⊢
      rw [if_pos rfl] at hf ⊢
      obtain ⟨⟨w6, S6⟩, h6, hf⟩ := Option.bind_eq_some_iff.mp hf
      obtain ⟨x6, hx6, hf⟩ := Option.bind_eq_some_iff.mp hf
      refine ⟨ρ5, σ3, S4, w6, S6, s5, r4.ext e5, h6, fun ρ6 v6 H6 e6 s6 r6 => ?_⟩
      have e26 := e25.trans e6
      obtain ⟨hD6, nD6⟩ := e26.keep _ _ hD2 nD2
      have b6 := e26.bsub _ b2
      dsimp only at hf
      split at hf
      · rename_i hfit
        have r6' : Rep ρ6 H6 x6 v6 := by
          cases w6 with
          | d y => cases hx6; exact r6
          | _ => cases hx6
        have e16 := e2.trans e26
        refine ⟨us, hD6, by rw [← ra.length]; exact fits_lt hfit, ρ6, S6, acc ++ [x6], us ++ [v6], ?_, b6, s6.blkW b6, (he2.ext e26).mv (blk_mv b6) rfl, upd_same, ?_, hf⟩
        · exact ⟨fun a o ha na => by
            have hne : a ≠ Dd := ne_of_none ha hD
            rw [upd_ne hne]
            exact e16.keep a o ha na, e16.loc, e16.len, fun a h => e16.dom a (none_of_upd a h), e16.bnew, e16.bsub⟩
        · exact ((ra.ext e26).append (.cons r6' .nil)).mv (blk_mv b6)
      · cases hf
    | false =>
      dsimp only at hf ⊢
      rw [if_neg Bool.false_ne_true] at hf ⊢
      exact ⟨ρ5, S4, acc, us, e2.trans e25, e25.bsub _ b2, s5, he2.ext e25, hD5, ra.ext e25, hf⟩
  · have hn : ds.drop i = [] := List.drop_eq_nil_of_le (by omega)
    rw [hn] at hf
    cases hf
    have hsub : ∀ a, a ∈ ρ2.b.filter (fun a => decide (a ≠ Dd)) → a ∈ ρ2.b := fun a h => (List.mem_filter.mp h).1
    have e2' : Ext ρ1 H1 ⟨ρ2.l, ρ2.b.filter (fun a => decide (a ≠ Dd))⟩ H2 := ⟨e2.keep, e2.loc, e2.len, e2.dom, fun a h => e2.bnew a (hsub a h), fun a h => List.mem_filter.mpr ⟨e2.bsub a h, by
      have : a ≠ Dd := fun z => s1.freshb hD (z ▸ h)
      simpa using this⟩⟩
    refine .inl ⟨stop (by dsimp only; omega), q ⟨ρ2.l, ρ2.b.filter (fun a => decide (a ≠ Dd))⟩ _ H2 (e1.trans e2') (s2.unblock hsub) (.lst hD2 ⟨nD2, fun z => ?_⟩ (ra.sub (unblock_fr hsub)))⟩
    have := (List.mem_filter.mp z).2
    simp at this

section
variable {X : Cx} {tg : Expr} {pos : Pos}
theorem d_compO {elt iter : Expr} {ifs : List Expr} {scope : Scope} (own : List (Str × Nat)) {mi : MIo} {g : MG} {mt : MT} {m : ME} (hc : X.calm = true) (hN : X.N.Nodup) (hi : PDIo X tg iter mi) (ok : BlkOk X.N X.env.scope scope own)
    (hg : ∀ (s : Shared) (H : Hp) (C : Addr) (cl : List (Str × Addr)) (fp : List Addr), PDGc (X.blk s H scope (compEnvC scope cl C X.env) fp) (own.map (·.2)) tg g) (ht : ∀ (s : Shared) (H : Hp) (C : Addr) (cl : List (Str × Addr)) (fp : List Addr), PDTs (X.blk s H scope (compEnvC scope cl C X.env) fp) ifs mt)
    (he : ∀ (s : Shared) (H : Hp) (C : Addr) (cl : List (Str × Addr)) (fp : List Addr), PD (X.blk s H scope (compEnvC scope cl C X.env) fp) elt m) (hs : ∀ x, foldedSetIterable iter X.env x = pure x := by intro _; rfl) :
    PD X (.ListComp elt [⟨tg, iter, ifs, 0⟩] scope pos) (mCompO mi g mt m (own.map (·.2))) := peImp (pe_lc hc hN hi ok hg ht he hs) fun _ _ _ h => compO_of h
theorem d_setCompO (i : Nat) {y : Str} {py spos : Pos} {elt iter : Expr} {ifs : List Expr} {scope : Scope} (own : List (Str × Nat)) {mi : MIo} {g : MG} {mt : MT} {m : ME} (hc : X.calm = true) (hN : X.N.Nodup) (hy : X.N[i]? = some y) (hyl : X.env.scope.names.lookup y = some .local)
    (hsw : swapsWith (.ListComp elt [⟨tg, iter, ifs, 0⟩] scope pos) (some (.Name y py)) spos.line X.env = pure true) (hi : PDIo X tg iter mi) (ok : BlkOk X.N X.env.scope scope own)
    (hg : ∀ (s : Shared) (H : Hp) (C : Addr) (cl : List (Str × Addr)) (fp : List Addr), PDGc (X.blk s H scope (compEnvC scope cl C X.env) fp) (own.map (·.2)) tg g) (ht : ∀ (s : Shared) (H : Hp) (C : Addr) (cl : List (Str × Addr)) (fp : List Addr), PDTs (X.blk s H scope (compEnvC scope cl C X.env) fp) ifs mt)
    (he : ∀ (s : Shared) (H : Hp) (C : Addr) (cl : List (Str × Addr)) (fp : List Addr), PD (X.blk s H scope (compEnvC scope cl C X.env) fp) elt m) (hs : ∀ x, foldedSetIterable iter X.env x = pure x := by intro _; rfl) :
    PDS X (.Assign [.Name y py] (.ListComp elt [⟨tg, iter, ifs, 0⟩] scope pos) spos) (mAsg i (mCompO mi g mt m (own.map (·.2)))) :=
  psImp (ps_setLc hc hN hy hyl hsw hi ok hg ht he hs) fun D σ H h => by
    obtain ⟨ρ, σd, S, out, hs, he, hm, q⟩ := h
    unfold mAsg at hm
    rw [Option.map_eq_some_iff] at hm
    obtain ⟨⟨w, S1⟩, h1, h2⟩ := hm
    cases h2
    exact compO_of ⟨ρ, σd, S, w, S1, hs, he, h1, fun ρ1 v H1 e1 s1 r1 => q ρ1 _ H1 e1 s1 ((he.ext e1).set r1 i)⟩
/-- the own list that a value is -/
def ownL (S : Sto) : W → Option (Nat × List D)
  | .loc n => match S[n]? with
    | some (.lst cs) => some (n, cs)
    | _ => none
  | _ => none
theorem ownL_at {K : KW} {ρ : Rho} {H : Hp} {S : Sto} (s : SRel K ρ H S) {w : W} {v : V} (r : RelW K ρ H w v) {n : Nat} {cs : List D} (h : ownL S w = some (n, cs)) :
    S[n]? = some (.lst cs) ∧ ∃ a vs, v = .ref a ∧ ρ.l[n]? = some (some a) ∧ H a = some (.lst vs) ∧ RepL ρ H cs vs := by
  cases w with
  | loc i =>
    simp only [ownL] at h
    split at h
    · rename_i xs e
      cases h
      obtain ⟨a, vs, h1, h2, h3, h4⟩ := s.lst_at r e
      exact ⟨e, a, vs, h1, h2, h3, h4⟩
    · cases h
  | _ => cases h
theorem own_same {ρ ρ' : Rho} {H H' : Hp} {S' : Sto} {n : Nat} {a : Addr} {cs : List D} (e : Ext ρ H ρ' H') (s' : SRel (kwOf X) ρ' H' S') (ha : ρ.l[n]? = some (some a)) (h : S'[n]? = some (.lst cs)) :
    ∃ vs, H' a = some (.lst vs) ∧ RepL ρ' H' cs vs := by
  obtain ⟨b, q⟩ := s'.live n _ h (by intro z; cases z)
  have hb := e.loc n b (List.getElem?_eq_some_iff.mp ha).1 q
  rw [ha] at hb
  cases hb
  obtain ⟨o, h1, h2⟩ := s'.obj n a q
  rw [h] at h1; cases h1
  exact h2
def iEnumO (m : MA) : MIo := fun σ S => (m σ S).bind fun r => match r.1 with
  | [w] => (ownL r.2 w).map fun q => ((q.1, q.2, enumD 0 q.2), r.2)
  | _ => none
theorem di_enumO {e : Expr} {m : MA} {p tpos : Pos} {elts : List Expr} {kk : Nat} (hg : Gl X "enumerate") (hm : X.mg "enumerate" = none) (ha : PDA X [e] m) (hs : starEach [e] X.env = [(false, eval e X.env)] := by rfl) :
    PDIo X (.Tuple elts kk tpos) (.Call (.Name "enumerate" p) [e] [] pos) (iEnumO m) := piImp (pi_enum hg hm ha hs) fun σ H R ⟨ρ, σd, S, r, S', hs, hE, hm, q⟩ => by
  obtain ⟨⟨ws, S1⟩, h1, hm⟩ := Option.bind_eq_some_iff.mp hm
  dsimp only at hm
  split at hm
  · rename_i w
    rw [Option.map_eq_some_iff] at hm
    obtain ⟨⟨n, cs⟩, h2, h3⟩ := hm
    cases h3
    refine ⟨ρ, σd, S, _, _, hs, hE, h1, fun ρ1 vs H1 e1 s1 r1 => ?_⟩
    obtain ⟨v, rfl, r⟩ := r1.one
    obtain ⟨hn, a, us, rfl, hl, hq, hr⟩ := ownL_at s1 r h2
    refine ⟨a, us, rfl, .inl (.inl hq), q ρ1 _ H1 e1 s1 fun ρ' H' S2 e s hS i => ?_⟩
    obtain ⟨vs', q', r'⟩ := own_same e s hl hS
    have rl : cs.length = vs'.length := r'.length
    have qs : SqL X.K H' a vs' := .inl (.inl q')
    refine ⟨fun hl => ⟨vs', qs, by dsimp only at hl; rw [enumD_len] at hl; omega⟩, fun d hd => ?_⟩
    rw [enumD_get, Option.map_eq_some_iff] at hd
    obtain ⟨d0, hd, rfl⟩ := hd
    obtain ⟨v, hv, rv⟩ := r'.get hd
    refine ⟨⟨vs', v, qs, hv⟩, fun x H'' y => ?_⟩
    obtain ⟨T, x0, rfl, hT, rfl, y⟩ := y
    have := y vs' qs
    rw [hv] at this; cases this
    refine ⟨Gr.new hT, .tup upd_same (s.fresh hT) (.cons ?_ (.cons (rv.ext (Ext.new hT)) .nil))⟩
    rw [Nat.zero_add]
    exact .int _
  · cases hm
/-- a, b, c = .., .. , .. where a name is a cell -/
theorem d_par3c (i j l : Nat) {x y z : Str} {a b c : Expr} {m : MA} {px py pz pt : Pos} {kt k2 pt2} (hc : X.calm = true) (hN : X.N.Nodup) (hx : Loc X.env.scope x) (hy : Loc X.env.scope y) (hz : Loc X.env.scope z) (ha : PDA X [a, b, c] m)
    (hi : X.N[i]? = some x := by rfl) (hj : X.N[j]? = some y := by rfl) (hl : X.N[l]? = some z := by rfl) (hfx : X.fn x = true ∨ X.env.scope.names.lookup x = some .local := by first | exact .inl rfl | exact .inr rfl) (hfy : X.fn y = true ∨ X.env.scope.names.lookup y = some .local := by first | exact .inl rfl | exact .inr rfl) (hfz : X.fn z = true ∨ X.env.scope.names.lookup z = some .local := by first | exact .inl rfl | exact .inr rfl)
    (hw : swappedStores [.Tuple [.Name x px, .Name y py, .Name z pz] kt pt] (.Tuple [a, b, c] k2 pt2) X.env = pure none := by rfl)
    (hs : swapsWithSole [.Tuple [.Name x px, .Name y py, .Name z pz] kt pt] (.Tuple [a, b, c] k2 pt2) pos.line X.env = pure false := by rfl)
    (h1 : (assignEach [.Tuple [.Name x px, .Name y py, .Name z pz] kt pt] X.env).map (·.2) = [assign (.Tuple [.Name x px, .Name y py, .Name z pz] kt pt) X.env] := by rfl)
    (hn : (assignEach [.Name x px, .Name y py, .Name z pz] X.env).length = 3 := by rfl) (hst : (assignEach [.Name x px, .Name y py, .Name z pz] X.env).findIdx? (·.1) = none := by rfl)
    (hs1 : (assignEach [.Name x px, .Name y py, .Name z pz] X.env).map (·.2) = assign (.Name x px) X.env :: (assignEach [.Name y py, .Name z pz] X.env).map (·.2) := by rfl)
    (hs2 : (assignEach [.Name y py, .Name z pz] X.env).map (·.2) = assign (.Name y py) X.env :: (assignEach [.Name z pz] X.env).map (·.2) := by rfl) (hs3 : (assignEach [.Name z pz] X.env).map (·.2) = assign (.Name z pz) X.env :: (assignEach [] X.env).map (·.2) := by rfl) :
    PDS X (.Assign [.Tuple [.Name x px, .Name y py, .Name z pz] kt pt] (.Tuple [a, b, c] k2 pt2) pos) (mPar3 i j l m) := psImp (ps_asg (pe_tup ha) (pg_tup hc (pgs_cons (pg_name hN hi hx hfx) (pgs_cons (pg_name hN hj hy hfy) (pgs_cons (pg_name hN hl hz hfz) pgs_nil hs3) hs2) hs1) hn hst) hs hw h1) fun D σ H ⟨ρ, σd, S, out, hs, he, hm, q⟩ => by
  obtain ⟨⟨ws, S1⟩, h1, hm⟩ := Option.bind_eq_some_iff.mp hm
  refine ⟨ρ, σd, S, ws, S1, hs, he, h1, fun ρ1 vs H1 e1 s1 r1 => ?_⟩
  simp only at hm
  split at hm
  · rename_i u v w
    cases hm
    cases r1 with
    | cons q0 r1 =>
      rename_i y0 _
      obtain ⟨y1, y2, rfl, q1, q2⟩ := r1.two
      refine ⟨by rw [sizeLine_eq]; show 3 ≤ 16777216; decide, fun p hp => ?_⟩
      have e2 := Ext.new (ρ := ρ1) (H := H1) (o := .tup [y0, y1, y2]) hp
      refine ⟨p, _, rfl, SqT.of upd_same, rfl, y0, [y1, y2], rfl, y1, [y2], rfl, y2, [], rfl, rfl, ?_⟩
      exact q ρ1 _ _ (e1.trans e2) (s1.new hp) ((((he.ext (e1.trans e2)).set (q0.ext e2) i).set (q1.ext e2) j).set (q2.ext e2) l)
  · cases hm
end
end DL

set_option Elab.async false
set_option linter.all false
set_option maxRecDepth 100000
set_option autoImplicit false
/-! The data layer: instances: attributes read and written, made, methods called. -/
noncomputable section
namespace DL
open PySem PySem.Spec PyProof.Rows L2
/-- the j-th statement of a class -/
def stInClass (s : Stmt) (j : Nat) : Stmt := match s with
  | .ClassDef _ _ _ body _ _ _ _ _ _ _ => body.getD j (.Pass ⟨0, 0, 0, 0⟩)
  | _ => .Pass ⟨0, 0, 0, 0⟩
def FV.w : FV → W
  | .d x => .d x
  | .loc n => .loc n
def asFV : W → Option FV
  | .d x => some (.d x)
  | .loc n => some (.loc n)
  | _ => none
/-- an attribute of an instance of the class C -/
def fldOf (S : Sto) (C f : Str) : W → Option W
  | .loc i => match S[i]? with
    | some (.ins D fs) => if D = C then (fs.lookup f).map FV.w else none
    | _ => none
  | _ => none
theorem RepF.look {K : KW} {ρ : Rho} {H : Hp} {fs : List (Str × FV)} {vs : List (Str × V)} (h : RepF ρ H fs vs) {f : Str} {x : FV} (e : fs.lookup f = some x) : ∃ v, vs.lookup f = some v ∧ RelW K ρ H x.w v := by
  induction h with
  | nil => cases e
  | @d y d v r s h1 _ ih =>
    rw [List.lookup_cons] at e ⊢
    cases q : (f == y) with
    | true =>
      rw [q] at e
      cases e
      exact ⟨v, rfl, h1⟩
    | false =>
      rw [q] at e
      exact ih e
  | @l y n v r s h1 _ ih =>
    rw [List.lookup_cons] at e ⊢
    cases q : (f == y) with
    | true =>
      rw [q] at e
      cases e
      exact ⟨v, rfl, h1⟩
    | false =>
      rw [q] at e
      exact ih e
theorem RepF.lookN {ρ : Rho} {H : Hp} {fs : List (Str × FV)} {vs : List (Str × V)} (h : RepF ρ H fs vs) {f : Str} (e : fs.lookup f = none) : vs.lookup f = none := by
  induction h with
  | nil => rfl
  | @d y d v r s h1 _ ih =>
    rw [List.lookup_cons] at e ⊢
    cases q : (f == y) with
    | true => rw [q] at e; cases e
    | false => rw [q] at e; exact ih e
  | @l y n v r s h1 _ ih =>
    rw [List.lookup_cons] at e ⊢
    cases q : (f == y) with
    | true => rw [q] at e; cases e
    | false => rw [q] at e; exact ih e
theorem RepF.length {ρ : Rho} {H : Hp} {fs : List (Str × FV)} {vs : List (Str × V)} (h : RepF ρ H fs vs) : fs.length = vs.length := by
  induction h with
  | nil => rfl
  | d _ _ ih => simp [ih]
  | l _ _ ih => simp [ih]
/-- an attribute set -/
def putFV (f : Str) (x : FV) : List (Str × FV) → List (Str × FV)
  | [] => [(f, x)]
  | (g, y) :: r => if g = f then (g, x) :: r else (g, y) :: putFV f x r
theorem RepF.cons {K : KW} {ρ : Rho} {H : Hp} {fs : List (Str × FV)} {vs : List (Str × V)} (h : RepF ρ H fs vs) (f : Str) {x : FV} {v : V} (r : RelW K ρ H x.w v) : RepF ρ H ((f, x) :: fs) ((f, v) :: vs) := by
  cases x with
  | d y => exact .d r h
  | loc n => exact .l r h
theorem RepF.put {K : KW} {ρ : Rho} {H : Hp} {fs : List (Str × FV)} {vs : List (Str × V)} (h : RepF ρ H fs vs) (f : Str) {x : FV} {v : V} (r : RelW K ρ H x.w v) : RepF ρ H (putFV f x fs) (putF f v vs) := by
  induction h with
  | nil => exact RepF.cons .nil f r
  | @d y d u q s h1 h2 ih =>
    unfold putFV putF
    split
    · exact RepF.cons h2 _ r
    · exact .d h1 ih
  | @l y n u q s h1 h2 ih =>
    unfold putFV putF
    split
    · exact RepF.cons h2 _ r
    · exact .l h1 ih
theorem asFV_w {w : W} {x : FV} (h : asFV w = some x) : x.w = w := by
  cases w <;> first | (cases h; rfl) | cases h
theorem ins_at {K : KW} {ρ : Rho} {H : Hp} {S : Sto} (hs : SRel K ρ H S) {i : Nat} {v : V} {C : Str} {fs : List (Str × FV)} (r : RelW K ρ H (.loc i) v) (h : S[i]? = some (.ins C fs)) : ∃ a dx vs, v = .ref a ∧ ρ.l[i]? = some (some a) ∧ H a = some (.ins (He.ga K.k C) dx vs) ∧ RepF ρ H fs vs := by
  obtain ⟨a, e, q, dx, vs, h1, h2⟩ := dict_at hs r h (by intro z; cases z)
  exact ⟨a, dx, vs, e, q, h1, h2⟩
section
variable {X : Cx} {e : Expr} {pos : Pos} {es : List Expr}
@[simp] def mFld (C f : Str) (m : ME) : ME := fun σ S => (m σ S).bind fun r => (fldOf r.2 C f r.1).map fun w => (w, r.2)
theorem d_fld {C f : Str} {m : ME} (hc : Cls X.K (He.ga X.K C)) (hn : NoAttr X.K (He.ga X.K C) f) (he : PD X e m) (hb : attributeBase e f X.env (eval e X.env) = eval e X.env := by rfl) : PD X (.Attribute e f pos) (mFld C f m) :=
  peImp (pe_fld he hb) fun σ H Q ⟨ρ, σd, S, w, S', hs, hE, hm, q⟩ => by
    obtain ⟨⟨w1, S1⟩, h1, hm⟩ := Option.bind_eq_some_iff.mp hm
    rw [Option.map_eq_some_iff] at hm
    obtain ⟨w2, h2, h3⟩ := hm
    cases h3
    refine ⟨ρ, σd, S, w1, S1, hs, hE, h1, fun ρ1 v H1 e1 s1 r1 => ?_⟩
    dsimp only at h2
    unfold fldOf at h2
    split at h2
    · rename_i i
      split at h2
      · rename_i D fs hS
        split at h2
        · rename_i hD
          subst hD
          rw [Option.map_eq_some_iff] at h2
          obtain ⟨x, h4, rfl⟩ := h2
          obtain ⟨a, dx, vs, rfl, _, h5, h6⟩ := ins_at s1 r1 hS
          obtain ⟨u, h7, h8⟩ := h6.look (K := kwOf X) h4
          exact ⟨a, _, dx, vs, u, rfl, h5, hc, hn, h7, q ρ1 u H1 e1 s1 h8⟩
        · cases h2
      · cases h2
    · cases h2
/-- o.f = value -/
def setFld (S : Sto) (C f : Str) (x : FV) : W → Option Sto
  | .loc i => match S[i]? with
    | some (.ins D fs) => if D = C then (if Nat.blt fs.length 1000 = true then some (S.set i (.ins C (putFV f x fs))) else none) else none
    | _ => none
  | _ => none
@[simp] def mSetF (C f : Str) (mo mv : ME) : MS := fun σ S => (mv σ S).bind fun r => (asFV r.1).bind fun x => (mo σ r.2).bind fun q => (setFld q.2 C f x q.1).map fun S' => .nx σ S'
theorem d_setF {o value : Expr} {C f : Str} {mo mv : ME} {pos' : Pos} (hc : Cls X.K (He.ga X.K C)) (hn : NoAttr X.K (He.ga X.K C) f) (hv : PD X value mv) (ho : PD X o mo) (hs : swapsWith value (some (.Attribute o f pos')) pos.line X.env = pure false := by rfl) :
    PDS X (.Assign [.Attribute o f pos'] value pos) (mSetF C f mo mv) := psImp (ps_fld ho hv hs) fun D σ H ⟨ρ, σd, S, out, hs, hE, hm, q⟩ => by
  obtain ⟨⟨w1, S1⟩, h1, hm⟩ := Option.bind_eq_some_iff.mp hm
  obtain ⟨x, h2, hm⟩ := Option.bind_eq_some_iff.mp hm
  obtain ⟨⟨w3, S3⟩, h3, hm⟩ := Option.bind_eq_some_iff.mp hm
  rw [Option.map_eq_some_iff] at hm
  obtain ⟨S4, h4, h5⟩ := hm
  cases h5
  refine ⟨ρ, σd, S, w1, S1, hs, hE, h1, fun ρ1 v H1 e1 s1 r1 => ⟨ρ1, σd, S1, w3, S3, s1, hE.ext e1, h3, fun ρ2 u H2 e2 s2 r2 => ?_⟩⟩
  dsimp only at h4
  unfold setFld at h4
  split at h4
  · rename_i i
    split at h4
    · rename_i D' fs hS
      split at h4
      · rename_i hD
        subst hD
        obtain ⟨hl, h4⟩ := some_if h4
        cases h4
        obtain ⟨a, dx, vs, rfl, ha, h5, h6⟩ := ins_at s2 r2 hS
        have hl' : fs.length < 1000 := by simpa using hl
        refine ⟨a, _, dx, vs, rfl, h5, hc, hn, by rw [← h6.length]; exact hl', ?_⟩
        have rv : RelW (kwOf X) ρ2 H2 x.w v := by rw [asFV_w h2]; exact r1.ext e2
        have e3 : Ext ρ2 H2 ρ2 (upd H2 a (.ins (He.ga X.K D') dx (putF f v vs))) := Ext.write (List.mem_of_getElem? ha)
        have hf := h6.put (K := kwOf X) f rv
        exact q ρ2 σ _ ((e1.trans e2).trans e3) (s2.write ha ⟨dx, _, upd_same, hf.ext e3⟩) (hE.ext ((e1.trans e2).trans e3))
      · cases h4
    · cases h4
  · cases h4
/-! ### methods -/
/-- an instance of the class C with no attribute m -/
def isIns (C m : Str) (S : Sto) : W → Bool
  | .loc i => match S[i]? with
    | some (.ins D fs) => decide (D = C) && (fs.lookup m).isNone
    | _ => false
  | _ => false
@[simp] def mMethI (C m : Str) (n : Nat) (g : Fn) (o : ME) (ma : MA) : ME := fun σ S => (o σ S).bind fun r => if isIns C m r.2 r.1 = true then (ma σ r.2).bind fun q => if decide ((r.1 :: q.1).length = n) = true then g (r.1 :: q.1) q.2 else none else none
theorem isIns_at {K : KW} {ρ : Rho} {H : Hp} {S : Sto} (hs : SRel K ρ H S) {w : W} {v : V} {C m : Str} (r : RelW K ρ H w v) (h : isIns C m S w = true) : ∃ a dx vs, v = .ref a ∧ H a = some (.ins (He.ga K.k C) dx vs) ∧ vs.lookup m = none := by
  unfold isIns at h
  split at h
  · rename_i i
    split at h
    · rename_i D fs hS
      rw [Bool.and_eq_true, decide_eq_true_eq] at h
      obtain ⟨rfl, h⟩ := h
      obtain ⟨a, dx, vs, e, _, h1, h2⟩ := ins_at hs r hS
      exact ⟨a, dx, vs, e, h1, h2.lookN (Option.isNone_iff_eq_none.mp h)⟩
    · cases h
  · cases h
variable {k n : Nat} {f : Addr} {fd : FuncData} {ps : List Str} {g : Fn} {x C mn : Str} {p apos : Pos} {o : Expr}
theorem d_methI {pl : Sem Bool} {mo : ME} {m : MA} (ho : PD X o mo) (c : Cls X.K (He.ga X.K C)) (hm : Meth X.K (He.ga X.K C) mn f) (F : FnG X.prog X.w X.K X.mg X.base CX0 k f fd ps (spD (kwOf X) n g)) (hG : X.A.guards = some []) (hr : Room k X.A) (hb : Binds X.K fd ps [])
    (ha : PDA X (e :: es) m) (hst : starEach (e :: es) X.env = (false, eval e X.env) :: starEach es X.env := by rfl) (hpl : (backTo pos (starEach es X.env)).any (·.1) = false := by rfl)
    (ht : eval (.Call (.Attribute o mn apos) (e :: es) [] pos) X.env = (do
      let ov ← eval o X.env
      standAt apos.atName
      let (f, first) ← holding [ov] (getMethod ov mn pl)
      callWith pos f first (backTo pos (starEach (e :: es) X.env)) (backToKw pos (keywordEach [] X.env))) := by rfl) :
    PD X (.Call (.Attribute o mn apos) (e :: es) [] pos) (mMethI C mn n g mo m) := by
  refine ⟨fun pins s σ H Q I h => ?_⟩
  obtain ⟨ρ, σd, S, w, S', hs, hE, hmm, q⟩ := h
  obtain ⟨⟨w1, S1⟩, h1, hmm⟩ := Option.bind_eq_some_iff.mp hmm
  obtain ⟨hi, hmm⟩ : isIns C mn S1 w1 = true ∧ ((m σd S1).bind fun q => if decide ((w1 :: q.1).length = n) = true then g (w1 :: q.1) q.2 else none) = some (w, S') := by
    dsimp only at hmm
    split at hmm
    · rename_i z; exact ⟨z, hmm⟩
    · cases hmm
  obtain ⟨⟨ws, S2⟩, h2, h3⟩ := Option.bind_eq_some_iff.mp hmm
  have hrec : tD (kwOf X) mo σ H (fun v H1 => ∃ a dx fs, v = .ref a ∧ H1 a = some (.ins (He.ga X.K C) dx fs) ∧ fs.lookup mn = none ∧ tDA (kwOf X) m σ H1 fun vs H2 => spD (kwOf X) n g (.ref a :: vs) H2 Q E0) := by
    refine ⟨ρ, σd, S, w1, S1, hs, hE, h1, fun ρ1 v H1 e1 s1 r1 => ?_⟩
    obtain ⟨a, dx, fs, rfl, h4, h5⟩ := isIns_at s1 r1 hi
    refine ⟨a, dx, fs, rfl, h4, h5, ρ1, σd, S1, ws, S2, s1, hE.ext e1, h2, fun ρ2 vs H2 e2 s2 r2 => ?_⟩
    exact spD_of s2 (.cons (r1.ext e2) r2) h3 fun ρ3 v H3 e3 s3 r3 => q ρ3 v H3 ((e1.trans e2).trans e3) s3 r3
  refine PySem.W.methodCall_KW (pl := pl) (thn (ho.run pins s σ H _ I hrec) fun u s1 ⟨x, H1, I1, rx, a, dx, fs, ex, ea, l, q1⟩ => ?_) ht
  subst ex
  obtain rfl : u = Value.ref a := rx
  refine getmeth_ok I1 ea c hm l ?_
  refine PySem.W.callWith_K (first := [.ref a]) (h₀ := X.base) I.ok.mod.kin hm.kp (thn (ha.run pos pins s1 σ H1 _ I1 q1) fun us s2 ⟨vs, H2, I2, r, q2⟩ => ⟨I2.kIn, ?_⟩) hst hpl
  have rr : Vals (V.ref a :: vs) (Value.ref a :: us) := .cons rfl r
  have hl : (Value.ref a :: us).length = ps.length := by rw [← rr.length]; exact F.len _ _ _ _ q2
  have hbd := hb s2 (Value.ref a :: us) I2.kIn (by rw [List.append_nil]; exact hl)
  rw [List.append_nil] at hbd
  exact wp_of_code (run_G F hG hr I2 hbd rr q2)
theorem d_methI0 {pl : Sem Bool} {mo : ME} (ho : PD X o mo) (c : Cls X.K (He.ga X.K C)) (hm : Meth X.K (He.ga X.K C) mn f) (F : FnG X.prog X.w X.K X.mg X.base CX0 k f fd ps (spD (kwOf X) n g)) (hG : X.A.guards = some []) (hr : Room k X.A) (hb : Binds X.K fd ps [])
    (ht : eval (.Call (.Attribute o mn apos) [] [] pos) X.env = (do
      let ov ← eval o X.env
      standAt apos.atName
      let (f, first) ← holding [ov] (getMethod ov mn pl)
      callWith pos f first (backTo pos (starEach [] X.env)) (backToKw pos (keywordEach [] X.env))) := by rfl) :
    PD X (.Call (.Attribute o mn apos) [] [] pos) (mMethI C mn n g mo mNil) := by
  refine ⟨fun pins s σ H Q I h => ?_⟩
  obtain ⟨ρ, σd, S, w, S', hs, hE, hmm, q⟩ := h
  obtain ⟨⟨w1, S1⟩, h1, hmm⟩ := Option.bind_eq_some_iff.mp hmm
  obtain ⟨hi, hmm⟩ : isIns C mn S1 w1 = true ∧ ((mNil σd S1).bind fun q => if decide ((w1 :: q.1).length = n) = true then g (w1 :: q.1) q.2 else none) = some (w, S') := by
    dsimp only at hmm
    split at hmm
    · rename_i z; exact ⟨z, hmm⟩
    · cases hmm
  obtain ⟨⟨ws, S2⟩, h2, h3⟩ := Option.bind_eq_some_iff.mp hmm
  cases h2
  have hrec : tD (kwOf X) mo σ H (fun v H1 => ∃ a dx fs, v = .ref a ∧ H1 a = some (.ins (He.ga X.K C) dx fs) ∧ fs.lookup mn = none ∧ spD (kwOf X) n g [.ref a] H1 Q E0) := by
    refine ⟨ρ, σd, S, w1, S1, hs, hE, h1, fun ρ1 v H1 e1 s1 r1 => ?_⟩
    obtain ⟨a, dx, fs, rfl, h4, h5⟩ := isIns_at s1 r1 hi
    exact ⟨a, dx, fs, rfl, h4, h5, spD_of s1 (.cons r1 .nil) h3 fun ρ3 v H3 e3 s3 r3 => q ρ3 v H3 (e1.trans e3) s3 r3⟩
  refine PySem.W.methodCall_KW (pl := pl) (thn (ho.run pins s σ H _ I hrec) fun u s1 ⟨x, H1, I1, rx, a, dx, fs, ex, ea, l, q1⟩ => ?_) ht
  subst ex
  obtain rfl : u = Value.ref a := rx
  refine getmeth_ok I1 ea c hm l ?_
  have rr : Vals [V.ref a] [Value.ref a] := .cons rfl .nil
  have hl : [Value.ref a].length = ps.length := by rw [← rr.length]; exact F.len _ _ _ _ q1
  have hbd := hb s1 [Value.ref a] I1.kIn (by rw [List.append_nil]; exact hl)
  rw [List.append_nil] at hbd
  exact PySem.W.callWith_K0 (first := [.ref a]) I1.kIn hm.kp (wp_of_code (run_G F hG hr I1 hbd rr q1))
/-! ### making -/
@[simp] def mMake (C : Str) (n : Nat) (g : Fn) (m : MA) : ME := fun σ S => (m σ S).bind fun r => if decide ((W.loc r.2.length :: r.1).length = n) = true then (g (.loc r.2.length :: r.1) (r.2 ++ [.ins C []])).bind fun q => match q.1 with
  | .d .none => some (.loc r.2.length, q.2)
  | _ => none else none
theorem mk_sp {K : KW} {ρ : Rho} {H : Hp} {S S' : Sto} {ws : List W} {vs : List V} {w : W} {Q : VK} {C : Str} (hs : SRel K ρ H S) (hr : RelWs K ρ H ws vs)
    (hm : (if decide ((W.loc S.length :: ws).length = n) = true then (g (.loc S.length :: ws) (S ++ [.ins C []])).bind fun q => match q.1 with | .d .none => some (W.loc S.length, q.2) | _ => none else none) = some (w, S'))
    (q : ∀ ρ' v H', Ext ρ H ρ' H' → SRel K ρ' H' S' → RelW K ρ' H' w v → Q v H') :
    ∀ y dx, H y = none → H dx = none → dx ≠ y → spD K n g (.ref y :: vs) (upd (upd H dx (.own y)) y (.ins (He.ga K.k C) dx [])) (fun v H2 => v = .non ∧ Q (.ref y) H2) E0 := by
  intro y dx hy hdx hne
  split at hm
  case isFalse => cases hm
  rename_i hl
  obtain ⟨⟨w1, S1⟩, h1, h2⟩ := Option.bind_eq_some_iff.mp hm
  dsimp only at h2
  split at h2
  case h_2 => cases h2
  cases h2
  have e1 : Ext ρ H ρ (upd H dx (.own y)) := Ext.new hdx
  have s1 : SRel K ρ (upd H dx (.own y)) S := hs.new hdx
  have hy1 : upd H dx (.own y) y = none := by rw [upd_ne (Ne.symm hne)]; exact hy
  have e2 := Ext.alloc (o := .ins (He.ga K.k C) dx []) s1 hy1
  have s2 : SRel K (ρ.add y) (upd (upd H dx (.own y)) y (.ins (He.ga K.k C) dx [])) (S ++ [.ins C []]) := s1.alloc hy1 ⟨dx, [], upd_same, .nil⟩
  have rl : RelW K (ρ.add y) (upd (upd H dx (.own y)) y (.ins (He.ga K.k C) dx [])) (.loc S.length) (.ref y) := new_loc s1
  refine ⟨ρ.add y, S ++ [.ins C []], .loc S.length :: ws, .d .none, S', s2, .cons rl (hr.ext (e1.trans e2)), of_decide_eq_true hl, h1, fun ρ' v H' e3 s3 r3 => ?_⟩
  cases r3
  exact ⟨rfl, q ρ' (.ref y) H' ((e1.trans e2).trans e3) s3 (rl.ext e3)⟩
theorem run_makeG {pins : List (Addr × Obj)} {σ : L2.St} {H : Hp} {s : Shared} {Q : VK} {us : List Value} {vs : List V} {A : Addr} (M : Mk X.K A f) (F : FnG X.prog X.w X.K X.mg X.base CX0 k f fd ps (spD (kwOf X) n g)) (hG : X.A.guards = some []) (hr : Room (k + 1) X.A) (hb : Binds X.K fd ps [])
    (I : Inv X pins σ H s) (r : Vals vs us)
    (h : ∀ x dx, H x = none → H dx = none → dx ≠ x → spD (kwOf X) n g (.ref x :: vs) (upd (upd H dx (.own x)) x (.ins A dx [])) (fun v H2 => v = .non ∧ Q (.ref x) H2) E0) :
    wpAny (model X.prog X.w) X.A (call (.ref A) us) (EP X pins σ Q) X.xe s := by
  have hq := h (s.heap.objs.size + 1) s.heap.objs.size (I.hok.fresh (Nat.le_succ _)) (I.hok.fresh (Nat.le_refl _)) (Nat.ne_of_lt (Nat.lt_succ_self _))
  have I2 := Inv.made (C := A) I
  have r2 : Vals (V.ref (s.heap.objs.size + 1) :: vs) (Value.ref (s.heap.objs.size + 1) :: us) := .cons rfl r
  have hl : (Value.ref (s.heap.objs.size + 1) :: us).length = ps.length := by rw [← r2.length]; exact F.len _ _ _ _ hq
  have hbd := hb { s with heap := (s.heap.push PySem.W.emptyDict).push (PySem.W.instObj A s.heap.objs.size) } (Value.ref (s.heap.objs.size + 1) :: us) I2.kIn (by rw [List.append_nil]; exact hl)
  rw [List.append_nil] at hbd
  have hG' : (X.A.under (.builtin "type.__call__" ⟨.ref A :: us, []⟩)).guards = some [] := by
    have e : (Code.builtin "type.__call__" ⟨.ref A :: us, []⟩).guards = [] := by
      have : (Code.builtin "type.__call__" ⟨.ref A :: us, []⟩).isGuard = false := by
        show guardIds.contains "type.__call__" = false
        decide +kernel
      unfold Code.guards
      rw [this]; rfl
    unfold Around.under
    dsimp only
    rw [e, hG]
    rfl
  refine wpAny_call (make_map (f := f) I.kIn M.makes M.init (beq_iff_eq.mp M.fn) (codeAny_mono (F.run _ hG' (hr.make A us []) X.stack _ _ (I2.env0.make A us []) ⟨Value.ref (s.heap.objs.size + 1) :: us, []⟩ (Value.ref (s.heap.objs.size + 1) :: us) _ hbd r2 _ E0 hq) fun r s' hq' => ?_))
  cases r with
  | error e => exact hq'.elim
  | ok fl =>
    cases fl with
    | ret u =>
      obtain ⟨v, H', I3, rv, ev, q3⟩ := I2.after hq'
      subst ev
      exact ⟨rv, ⟨V.ref (s.heap.objs.size + 1), H', I3, rfl, q3⟩⟩
    | next => exact False.elim hq'
    | brk => exact False.elim hq'
    | cont => exact False.elim hq'
theorem d_make0 (M : Mk X.K (He.ga X.K C) f) (F : FnG X.prog X.w X.K X.mg X.base CX0 k f fd ps (spD (kwOf X) n g)) (hG : X.A.guards = some []) (hr : Room (k + 1) X.A) (hg : Gl X x) (hm : X.mg x = some (.ref (He.ga X.K C))) (hb : Binds X.K fd ps [])
    (hdb : (x == ("__debug__" : Str)) = false := by decide) : PD X (.Call (.Name x p) [] [] pos) (mMake C n g mNil) := by
  refine ⟨fun pins s σ H Q I h => ?_⟩
  obtain ⟨ρ, σd, S, w, S', hs, hE, hmm, q⟩ := h
  obtain ⟨⟨ws, S1⟩, h1, h2⟩ := Option.bind_eq_some_iff.mp hmm
  cases h1
  refine wpAny_Call_Name_kw (ld_glob I hg hm ?_ hdb)
  exact PySem.W.callWith_K0 I.kIn M.kp (run_makeG (us := []) M F hG hr hb I .nil (mk_sp hs .nil h2 q))
theorem d_make {m : MA} (M : Mk X.K (He.ga X.K C) f) (F : FnG X.prog X.w X.K X.mg X.base CX0 k f fd ps (spD (kwOf X) n g)) (hG : X.A.guards = some []) (hr : Room (k + 1) X.A) (hg : Gl X x) (hm : X.mg x = some (.ref (He.ga X.K C))) (hb : Binds X.K fd ps [])
    (ha : PDA X (e :: es) m) (hdb : (x == ("__debug__" : Str)) = false := by decide) (he : starEach (e :: es) X.env = (false, eval e X.env) :: starEach es X.env := by rfl) (hpl : (backTo pos (starEach es X.env)).any (·.1) = false := by rfl) :
    PD X (.Call (.Name x p) (e :: es) [] pos) (mMake C n g m) := by
  refine ⟨fun pins s σ H Q I h => ?_⟩
  obtain ⟨ρ, σd, S, w, S', hs, hE, hmm, q⟩ := h
  obtain ⟨⟨ws, S1⟩, h1, h2⟩ := Option.bind_eq_some_iff.mp hmm
  have arg : tDA (kwOf X) m σ H (fun vs H1 => ∀ y dx, H1 y = none → H1 dx = none → dx ≠ y → spD (kwOf X) n g (.ref y :: vs) (upd (upd H1 dx (.own y)) y (.ins (He.ga X.K C) dx [])) (fun v H2 => v = .non ∧ Q (.ref y) H2) E0) :=
    ⟨ρ, σd, S, ws, S1, hs, hE, h1, fun ρ1 vs H1 e1 s1 r1 => mk_sp s1 r1 h2 fun ρ2 v H2 e2 s2 r2 => q ρ2 v H2 (e1.trans e2) s2 r2⟩
  refine wpAny_Call_Name_kw (ld_glob I hg hm ?_ hdb)
  refine PySem.W.callWith_K (h₀ := X.base) I.ok.mod.kin M.kp (thn (ha.run pos pins s σ H _ I arg) fun us s1 ⟨vs, H1, I1, r, q1⟩ => ⟨I1.kIn, ?_⟩) he hpl
  exact run_makeG M F hG hr hb I1 r q1
end
/-! ### what the head tells of a class -/
/-- a method that is called -/
structure CalM (P : Program) (w : World) (K : PySem.W.Frag) (mg : Str → Option Value) (base : Heap) (k : Nat) (C m : Str) (n : Nat) (g : Fn) : Prop where
  ex : ∃ (f : Addr) (fd : FuncData) (ps : List Str), FnG P w K mg base CX0 k f fd ps (spD ⟨K, w⟩ n g) ∧ Meth K (He.ga K C) m f ∧ Binds K fd ps [] ∧ ps.length = n
  cls : Cls K (He.ga K C)
/-- a class whose instances are made -/
structure CalMk (P : Program) (w : World) (K : PySem.W.Frag) (mg : Str → Option Value) (base : Heap) (k : Nat) (C : Str) (n : Nat) (g : Fn) : Prop where
  ex : ∃ (f : Addr) (fd : FuncData) (ps : List Str), FnG P w K mg base CX0 k f fd ps (spD ⟨K, w⟩ n g) ∧ Mk K (He.ga K C) f ∧ Binds K fd ps [] ∧ ps.length = n
  gl : mg C = some (.ref (He.ga K C))
section
variable {P : Program} {w : World} {K : PySem.W.Frag} {mg : Str → Option Value} {base : Heap} {k n : Nat} {x qual C mn : Str} {g : Fn} {st : Stmt} {f : Addr} {fd : FuncData} {N ps : List Str} {b : MS}
theorem fn_mkQ {n : Nat} (F : FunD K x qual (defArgs st) (defBody st) (defScope st) [] [] f fd) (S : FnScope N ps (defScope st)) (hn : ps.length = n) {m : Nat} (hN : N.length = m)
    (h : ∀ (cdv : Value) (A : Around) (outer : List PySem.Env) (s : Shared) (H : Hp) (E : XK), (cxOf CX0 P w K mg base N qual (defScope st) f cdv A outer s H E).nox.A.guards = some [] → Room k (cxOf CX0 P w K mg base N qual (defScope st) f cdv A outer s H E).nox.A →
      PDSs (cxOf CX0 P w K mg base N qual (defScope st) f cdv A outer s H E).nox (defBody st) b) : FnG P w K mg base CX0 (k + 1) f fd ps (spD ⟨K, w⟩ n (fnD m b)) := by
  subst hn hN
  exact fn_okG F S fun cdv A outer s H E hg hr => h cdv A outer s H E hg hr
theorem CalM.of (F : FunD K x qual (defArgs st) (defBody st) (defScope st) [] [] f fd) (c : Cls K (He.ga K C)) (hm : Meth K (He.ga K C) mn f) (G : FnG P w K mg base CX0 k f fd ps (spD ⟨K, w⟩ n g)) (hn : ps.length = n)
    (hb : ∀ (kV doc pm : Value) (an : Option Addr) (cdv ct : Value) (us : List Value), us.length = ps.length → bindArgs (PySem.W.fnOf x qual (defArgs st) (defBody st) (defScope st) .none kV doc pm an cdv ct) ⟨us, []⟩ = pure (ps.zip us)) : CalM P w K mg base k C mn n g :=
  ⟨⟨f, fd, ps, G, hm, F.bindsN hb, hn⟩, c⟩
theorem CalMk.of (F : FunD K x qual (defArgs st) (defBody st) (defScope st) [] [] f fd) (gl : mg C = some (.ref (He.ga K C))) (M : Mk K (He.ga K C) f) (G : FnG P w K mg base CX0 k f fd ps (spD ⟨K, w⟩ n g)) (hn : ps.length = n)
    (hb : ∀ (kV doc pm : Value) (an : Option Addr) (cdv ct : Value) (us : List Value), us.length = ps.length → bindArgs (PySem.W.fnOf x qual (defArgs st) (defBody st) (defScope st) .none kV doc pm an cdv ct) ⟨us, []⟩ = pure (ps.zip us)) : CalMk P w K mg base k C n g :=
  ⟨⟨f, fd, ps, G, M, F.bindsN hb, hn⟩, gl⟩
end
section
variable {X : Cx} {k n : Nat} {C mn : Str} {g : Fn} {p pos apos : Pos} {e o : Expr} {es : List Expr} {m : MA} {mo : ME}
theorem CalM.call {pl : Sem Bool} (c : CalM X.prog X.w X.K X.mg X.base k C mn n g) (hG : X.A.guards = some []) (hr : Room k X.A) (ho : PD X o mo) (ha : PDA X (e :: es) m) (hst : starEach (e :: es) X.env = (false, eval e X.env) :: starEach es X.env := by rfl) (hpl : (backTo pos (starEach es X.env)).any (·.1) = false := by rfl)
    (ht : eval (.Call (.Attribute o mn apos) (e :: es) [] pos) X.env = (do
      let ov ← eval o X.env
      standAt apos.atName
      let (f, first) ← holding [ov] (getMethod ov mn pl)
      callWith pos f first (backTo pos (starEach (e :: es) X.env)) (backToKw pos (keywordEach [] X.env))) := by rfl) : PD X (.Call (.Attribute o mn apos) (e :: es) [] pos) (mMethI C mn n g mo m) :=
  let ⟨_, _, _, F, hm, hb, _⟩ := c.ex
  d_methI ho c.cls hm F hG hr hb ha hst hpl ht
theorem CalM.call0 {pl : Sem Bool} (c : CalM X.prog X.w X.K X.mg X.base k C mn n g) (hG : X.A.guards = some []) (hr : Room k X.A) (ho : PD X o mo)
    (ht : eval (.Call (.Attribute o mn apos) [] [] pos) X.env = (do
      let ov ← eval o X.env
      standAt apos.atName
      let (f, first) ← holding [ov] (getMethod ov mn pl)
      callWith pos f first (backTo pos (starEach [] X.env)) (backToKw pos (keywordEach [] X.env))) := by rfl) : PD X (.Call (.Attribute o mn apos) [] [] pos) (mMethI C mn n g mo mNil) :=
  let ⟨_, _, _, F, hm, hb, _⟩ := c.ex
  d_methI0 ho c.cls hm F hG hr hb ht
theorem CalMk.make0 (c : CalMk X.prog X.w X.K X.mg X.base k C n g) (hG : X.A.guards = some []) (hr : Room (k + 1) X.A) (hg : Gl X C) (hdb : (C == ("__debug__" : Str)) = false := by decide) : PD X (.Call (.Name C p) [] [] pos) (mMake C n g mNil) :=
  let ⟨_, _, _, F, M, hb, _⟩ := c.ex
  d_make0 M F hG hr hg c.gl hb hdb
theorem CalMk.make (c : CalMk X.prog X.w X.K X.mg X.base k C n g) (hG : X.A.guards = some []) (hr : Room (k + 1) X.A) (hg : Gl X C) (ha : PDA X (e :: es) m) (hdb : (C == ("__debug__" : Str)) = false := by decide)
    (he : starEach (e :: es) X.env = (false, eval e X.env) :: starEach es X.env := by rfl) (hpl : (backTo pos (starEach es X.env)).any (·.1) = false := by rfl) : PD X (.Call (.Name C p) (e :: es) [] pos) (mMake C n g m) :=
  let ⟨_, _, _, F, M, hb, _⟩ := c.ex
  d_make M F hG hr hg c.gl hb ha hdb he hpl
end
end DL

set_option Elab.async false
set_option linter.all false
set_option maxRecDepth 100000
set_option autoImplicit false
/-! The data layer: dicts whose keys are nested tuples. -/
noncomputable section
namespace DL
open PySem PySem.Spec PyProof.Rows L2
/-! ### a key, as it lies -/
section
variable {P : Program} {w : World} {ρ : Rho} {H : Hp} {h : Heap}
mutual
theorem Rep.nest (ok : HOk P w H h) : ∀ {d : D} {v : V}, Rep ρ H d v → ∀ {k : NestedKey} {u : Value}, nkey d = some k → RelV v u → NestedIs h k u
  | _, _, .non, k, u, e, r => by
    simp only [nkey, Option.some.injEq] at e
    subst e
    obtain rfl : u = Value.none := r
    exact .none
  | _, _, .bl b, k, u, e, r => by simp [nkey] at e
  | _, _, .int i, k, u, e, r => by
    simp only [nkey, Option.some.injEq] at e
    subst e
    obtain ⟨t, rfl⟩ := r
    exact .int i t
  | _, _, .str x, k, u, e, r => by
    simp only [nkey, Option.some.injEq] at e
    subst e
    obtain ⟨t, rfl⟩ := r
    exact .text x t
  | _, _, .tup (a := a) (vs := vs) g _ q, k, u, e, r => by
    simp only [nkey, Option.map_eq_some_iff] at e
    obtain ⟨ks, e, rfl⟩ := e
    obtain rfl : u = Value.ref a := r
    obtain ⟨_, its, rv, o, h1, h2, n, h3⟩ := (show ObjOk P w H h a (.tup vs) from ok a _ g)
    exact .tup h1 h2 h3 (by simpa using RepL.nest ok q e rv)
  | _, _, .lst _ _ _, k, u, e, r => by simp [nkey] at e
theorem RepL.nest (ok : HOk P w H h) : ∀ {ds : List D} {vs : List V}, RepL ρ H ds vs → ∀ {ks : List NestedKey} {us : List Value}, nkeys ds = some ks → Vals vs us → NestedAll h ks us
  | _, _, .nil, ks, us, e, r => by
    simp only [nkeys, Option.some.injEq] at e
    subst e
    cases r
    exact .nil
  | _, _, .cons a b, ks, us, e, r => by
    simp only [nkeys, Option.bind_eq_some_iff, Option.map_eq_some_iff] at e
    obtain ⟨k, e1, ks', e2, rfl⟩ := e
    cases r with
    | cons r1 r2 => exact .cons (Rep.nest ok a e1 r1) (RepL.nest ok b e2 r2)
end
theorem tkey_nkey {d : D} {k : NestedKey} (h : tkey d = some k) : nkey d = some k ∧ k.depth ≤ 8 := by
  unfold tkey at h
  split at h
  · rename_i xs
    obtain ⟨ks, h1, h2⟩ := Option.bind_eq_some_iff.mp h
    split at h2
    · rename_i hd
      cases h2
      exact ⟨by simp [nkey, h1], of_decide_eq_true hd⟩
    · cases h2
  · cases h
theorem key_is (ok : HOk P w H h) {d : D} {k : NestedKey} {b : Addr} (r : Rep ρ H d (.ref b)) (e : tkey d = some k) : (nestedKind P w).is h k b := by
  obtain ⟨h1, h2⟩ := tkey_nkey e
  exact ⟨r.nest ok h1 rfl, h2⟩
theorem RepN.is (ok : HOk P w H h) {kvs : List (D × D)} {xs : List (NestedKey × Addr × Value)} (r : RepN ρ H kvs xs) : ∀ x ∈ xs, (nestedKind P w).is h x.1 x.2.1 := by
  induction r with
  | nil => intro x hx; cases hx
  | cons a b c d _ ih =>
    intro x hx
    rcases List.mem_cons.mp hx with rfl | hx
    · exact key_is ok b a
    · exact ih x hx
theorem dn_of (ok : HOk P w H h) {a : Addr} {kvs : List (D × D)} {xs : List (NestedKey × Addr × Value)} (e : H a = some (DictE a (xs.map (entN w)))) (hn : (xs.map (·.1)).Nodup) (r : RepN ρ H kvs xs) : h.DictOfH (nestedKind P w) a xs := by
  obtain ⟨⟨o, ep, h1, h2, h3⟩, _⟩ := (show ObjOk P w H h a (DictE a (xs.map (entN w))) from ok a _ e)
  exact ⟨o, _, ep, h1, h2, h3, by simp only [List.toList_toArray]; rfl, r.is ok, hn⟩
end
/-! ### what it holds -/
def valN (kvs : List (D × D)) (k : NestedKey) : Option D := (kvs.find? fun kv => decide (tkey kv.1 = some k)).map (·.2)
def putN (kvs : List (D × D)) (kd : D) (k : NestedKey) (d : D) : List (D × D) := if (valN kvs k).isSome then kvs.map fun kv => if tkey kv.1 = some k then (kv.1, d) else kv else kvs ++ [(kd, d)]
theorem RepN.val {ρ : Rho} {H : Hp} {kvs : List (D × D)} {xs : List (NestedKey × Addr × Value)} (r : RepN ρ H kvs xs) (k : NestedKey) :
    (valN kvs k = none ∧ atKey xs k = none) ∨ ∃ d b u v, valN kvs k = some d ∧ atKey xs k = some (b, u) ∧ RelV v u ∧ Rep ρ H d v := by
  induction r with
  | nil => exact .inl ⟨rfl, rfl⟩
  | @cons kd d k' b u v s t h1 h2 h3 h4 _ ih =>
    unfold valN atKey at ih ⊢
    simp only [List.find?_cons]
    by_cases e : k' = k
    · subst e
      simp only [h1, decide_true]
      exact .inr ⟨d, b, u, v, rfl, rfl, h4, h3⟩
    · have e2 : ¬ (tkey kd = some k) := by rw [h1]; simpa using e
      simp only [e, e2, decide_false]
      exact ih
theorem RepN.len {ρ : Rho} {H : Hp} {kvs : List (D × D)} {xs : List (NestedKey × Addr × Value)} (r : RepN ρ H kvs xs) : kvs.length = xs.length := by
  induction r with
  | nil => rfl
  | cons _ _ _ _ _ ih => simp [ih]
theorem RepN.app {ρ : Rho} {H : Hp} {kvs : List (D × D)} {xs : List (NestedKey × Addr × Value)} (r : RepN ρ H kvs xs) {kd d : D} {k : NestedKey} {b : Addr} {u : Value} {v : V} (h1 : tkey kd = some k) (h2 : Rep ρ H kd (.ref b)) (h3 : Rep ρ H d v) (h4 : RelV v u) : RepN ρ H (kvs ++ [(kd, d)]) (xs ++ [(k, b, u)]) := by
  induction r with
  | nil => exact .cons h1 h2 h3 h4 .nil
  | cons a b c e _ ih => exact .cons a b c e ih
theorem RepN.put {ρ : Rho} {H : Hp} {kvs : List (D × D)} {xs : List (NestedKey × Addr × Value)} (r : RepN ρ H kvs xs) {kd d : D} {k : NestedKey} {b : Addr} {u : Value} {v : V} (h1 : tkey kd = some k) (h2 : Rep ρ H kd (.ref b)) (h3 : Rep ρ H d v) (h4 : RelV v u) : RepN ρ H (putN kvs kd k d) (storedH xs k b u) := by
  unfold putN storedH
  rcases r.val k with ⟨e1, e2⟩ | ⟨d0, b0, u0, v0, e1, e2, _, _⟩
  · rw [e1, e2]
    exact r.app h1 h2 h3 h4
  · rw [e1, e2]
    simp only [Option.isSome_some, if_true]
    clear e1 e2
    induction r with
    | nil => exact .nil
    | @cons kd' d' k' b' u' v' s t g1 g2 g3 g4 _ ih =>
      simp only [List.map_cons]
      by_cases e : k' = k
      · subst e
        rw [if_pos g1]
        have : putAt k' u (k', b', u') = (k', b', u) := by simp [putAt]
        rw [this]
        exact .cons g1 g2 h3 h4 ih
      · rw [if_neg (by rw [g1]; simpa using e)]
        have : putAt k u (k', b', u') = (k', b', u') := by simp [putAt, e]
        rw [this]
        exact .cons g1 g2 g3 g4 ih
/-- the nested dict that a value is -/
def lookN (S : Sto) : W → W → Option (Option D)
  | .loc i, .d k => match S[i]? with
    | some (.dN kvs) => (tkey k).map fun k => valN kvs k
    | _ => none
  | _, _ => none
theorem tkey_ref {ρ : Rho} {H : Hp} {d : D} {v : V} {k : NestedKey} (h : tkey d = some k) (r : Rep ρ H d v) : ∃ b, v = .ref b := by
  cases r <;> first | exact ⟨_, rfl⟩ | simp [tkey] at h
theorem lookN_rel {X : Cx} {pins : List (Addr × Obj)} {σ : L2.St} {ρ : Rho} {H : Hp} {S : Sto} {s : Shared} (I : Inv X pins σ H s) (hs : SRel (kwOf X) ρ H S) {x y : W} {v u : V} {o : Option D} (rx : RelW (kwOf X) ρ H x v) (ry : RelW (kwOf X) ρ H y u) (h : lookN S x y = some o) :
    ∃ a b k xs, v = .ref a ∧ u = .ref b ∧ (a == sysModules) = false ∧ (nestedKind X.prog X.w).is s.heap k b ∧ s.heap.DictOfH (nestedKind X.prog X.w) a xs ∧
      ((o = none ∧ atKey xs k = none) ∨ ∃ d c z t, o = some d ∧ atKey xs k = some (c, z) ∧ RelV t z ∧ Rep ρ H d t) := by
  unfold lookN at h
  split at h
  · rename_i i kd
    split at h
    · rename_i kvs e
      rw [Option.map_eq_some_iff] at h
      obtain ⟨k, hk, rfl⟩ := h
      obtain ⟨a, rfl, _, xs, h2, h3, h4, h5⟩ := dict_at hs rx e (by intro z; cases z)
      obtain ⟨b, rfl⟩ := tkey_ref hk ry
      refine ⟨a, b, k, xs, rfl, rfl, h3, key_is I.hok ry hk, dn_of I.hok h2 h4 h5, ?_⟩
      rcases h5.val k with ⟨e1, e2⟩ | ⟨d, c, z, t, e1, e2, e3, e4⟩
      · exact .inl ⟨e1, e2⟩
      · exact .inr ⟨d, c, z, t, e1, e2, e3, e4⟩
    · cases h
  · cases h
section
variable {X : Cx} {e : Expr} {pos : Pos}
theorem roomN (hu : X.A.units + 65 < cLine) : (nestedKind X.prog X.w).room X.A.in1 := by
  show X.A.units + 1 + 8 < cLine
  omega
def vNGet : G2 := fun S x y => (lookN S x y).bind fun o => o.map W.d
def vNIn : G2 := fun S y x => (lookN S x y).map fun o => .d (.bool o.isSome)
def vNNotIn : G2 := fun S y x => (lookN S x y).map fun o => .d (.bool (!o.isSome))
theorem d_nget {o i : Expr} {mo mi : ME} (hu : X.A.units + 65 < cLine) (ho : PD X o mo) (hi : PD X i mi) (hsl : NoSl i) : PD X (.Subscript o i pos) (mBin vNGet mo mi) := by
  refine ⟨fun pins s σ H Q I h => ?_⟩
  obtain ⟨ρ, σd, S, w, S', hs, hE, hmm, q⟩ := h
  obtain ⟨⟨w1, S1⟩, h1, hmm⟩ := Option.bind_eq_some_iff.mp hmm
  obtain ⟨⟨w2, S2⟩, h2, hmm⟩ := Option.bind_eq_some_iff.mp hmm
  rw [Option.map_eq_some_iff] at hmm
  obtain ⟨w3, h3, h4⟩ := hmm
  cases h4
  have hrec : tD (kwOf X) mo σ H (fun v H1 => tD (kwOf X) mi σ H1 fun u H2 => ∃ ρ2, SRel (kwOf X) ρ2 H2 S2 ∧ RelW (kwOf X) ρ2 H2 w1 v ∧ RelW (kwOf X) ρ2 H2 w2 u ∧ Ext ρ H ρ2 H2) :=
    ⟨ρ, σd, S, w1, S1, hs, hE, h1, fun ρ1 v H1 e1 s1 r1 => ⟨ρ1, σd, S1, w2, S2, s1, hE.ext e1, h2, fun ρ2 u H2 e2 s2 r2 => ⟨ρ2, s2, r1.ext e2, r2, e1.trans e2⟩⟩⟩
  refine subD_of PySem.F.slot_dict_getitem.lookup hsl (thn (ho.run pins s σ H _ I hrec) fun ov s1 ⟨x, H1, I1, rx, q1⟩ => thn (hi.run pins s1 σ H1 _ I1 q1) fun iv s2 ⟨y, H2, I2, ry, ρ2, c1, c2, c3, c4⟩ => ?_)
  obtain ⟨od, h5, h6⟩ := Option.bind_eq_some_iff.mp h3
  rw [Option.map_eq_some_iff] at h6
  obtain ⟨d, rfl, rfl⟩ := h6
  obtain ⟨a, b, k, xs, rfl, rfl, _, hk, hd, hh⟩ := lookN_rel I2 c1 c2 c3 h5
  obtain rfl : ov = Value.ref a := rx
  obtain rfl : iv = Value.ref b := ry
  rcases hh with ⟨z, _⟩ | ⟨d', c, z, t, e1, e2, e3, e4⟩
  · cases z
  · cases e1
    exact ⟨hd.typeIs, wpAny_getItem_heap (roomN hu) hk hd e2 ⟨t, H2, I2.tok _, e3, q ρ2 t H2 c4 c1 e4⟩⟩
theorem o_nin (hu : X.A.units + 65 < cLine) : OpD X (compareOp .In) vNIn := by
  rintro pins s σ H v u v' u' Q I r1 r2 ⟨ρ, S, x, y, w, hs, rx, ry, hg, q⟩
  unfold vNIn at hg
  rw [Option.map_eq_some_iff] at hg
  obtain ⟨o, ho, rfl⟩ := hg
  obtain ⟨a, b, k, xs, rfl, rfl, hsm, hk, hd, hh⟩ := lookN_rel I hs ry rx ho
  obtain rfl : u' = Value.ref a := r2
  obtain rfl : v' = Value.ref b := r1
  refine wpAny_in_heap (roomN hu) hk hsm hd ⟨.bl o.isSome, H, I.tok _, ?_, q ρ (.bl _) H .refl hs (.bl _)⟩
  rcases hh with ⟨rfl, e2⟩ | ⟨d', c, z, t, rfl, e2, _, _⟩ <;> rw [e2] <;> rfl
theorem o_nnotIn (hu : X.A.units + 65 < cLine) : OpD X (compareOp .NotIn) vNNotIn := by
  rintro pins s σ H v u v' u' Q I r1 r2 ⟨ρ, S, x, y, w, hs, rx, ry, hg, q⟩
  unfold vNNotIn at hg
  rw [Option.map_eq_some_iff] at hg
  obtain ⟨o, ho, rfl⟩ := hg
  obtain ⟨a, b, k, xs, rfl, rfl, hsm, hk, hd, hh⟩ := lookN_rel I hs ry rx ho
  obtain rfl : u' = Value.ref a := r2
  obtain rfl : v' = Value.ref b := r1
  refine notIn_keyed (roomN hu) hk hsm ⟨xs, hd, rfl⟩ ⟨.bl (!o.isSome), H, I.tok _, ?_, q ρ (.bl _) H .refl hs (.bl _)⟩
  rw [valueAt_pairsH]
  rcases hh with ⟨rfl, e2⟩ | ⟨d', c, z, t, rfl, e2, _, _⟩ <;> rw [e2] <;> rfl
/-! ### a new one, an item stored -/
theorem dictE_ok {P : Program} {w : World} {H : Hp} {h : Heap} {a : Addr} {xs : List (NestedKey × Addr × Value)} (x : h.DictOfH (nestedKind P w) a xs) : ObjOk P w H h a (DictE a (xs.map (entN w))) := by
  obtain ⟨o, es, ep, h1, h2, h3, h4, _⟩ := x
  refine ⟨⟨o, ep, h1, h2, ?_⟩, ⟨o, h1⟩, fun h1 h2 ⟨o, ep, q1, q2, q3⟩ k => ⟨o, ep, k o q1, q2, q3⟩⟩
  rw [h3]
  have : es = (xs.map (entN w)).toArray := by
    apply Array.ext'
    rw [h4]
    rfl
  rw [this]
@[simp] def mNewN : ME := fun _ S => some (.loc S.length, S ++ [.dN []])
theorem d_newN : PD X (.Dict [] [] pos) mNewN := ⟨fun pins s σ H Q I ⟨ρ, σd, S, w, S', hs, hE, hm, q⟩ => by
  cases hm
  have hp : H s.heap.objs.size = none := I.hok.fresh (Nat.le_refl _)
  have hsm : (s.heap.objs.size == sysModules) = false := by
    exact beq_eq_false_iff_ne.mpr (Nat.ne_of_gt I.big)
  refine wpAny_Dict_empty ⟨.ref s.heap.objs.size, _, I.laid (a := s.heap.objs.size) (o := DictE s.heap.objs.size (([] : List (NestedKey × Addr × Value)).map (entN X.w))) (t' := s.toks) (fun _ _ q => Heap.get?_push_of_some _ q) (Nat.le_refl _) (dictE_ok (Heap.DictOfH.new s.heap)), rfl, ?_⟩
  refine q (ρ.add s.heap.objs.size) _ _ (Ext.alloc hs hp) (hs.alloc hp ⟨[], upd_same, hsm, List.nodup_nil, .nil⟩) (new_loc hs)⟩
def vNSet : GS := fun S o i v => match o, i, v with
  | .loc n, .d i, .d v => match S[n]? with
    | some (.dN kvs) => (tkey i).bind fun k => if fits (kvs.length + 1) = true then some (S.set n (.dN (putN kvs i k v))) else none
    | _ => none
  | _, _, _ => none
theorem s_nset (hu : X.A.units + 65 < cLine) : SetD X vNSet := by
  rintro pins s σ H o i v ov iv uv Q I ro ri rv ⟨ρ, S, x, y, z, S', hs, rx, ry, rz, hg, q⟩
  unfold vNSet at hg
  split at hg
  · rename_i n i' v'
    split at hg
    · rename_i kvs e
      obtain ⟨k, hk, hg⟩ := Option.bind_eq_some_iff.mp hg
      obtain ⟨hf, hg⟩ := some_if hg
      cases hg
      obtain ⟨a, rfl, hl, xs, h2, h3, h4, h5⟩ := dict_at hs rx e (by intro z; cases z)
      obtain rfl : ov = Value.ref a := ro
      obtain ⟨b, rfl⟩ := tkey_ref hk ry
      obtain rfl : iv = Value.ref b := ri
      have hm := List.mem_of_getElem? hl
      have hz : xs.length ≤ sizeLine := by
        have := fits_lt hf
        rw [← h5.len]; omega
      refine wpAny_setItem_heap (hsz := hz) (roomN hu) (key_is I.hok ry hk) (dn_of I.hok h2 h4 h5) fun h' dd' hsb => ?_
      have hn' : ((storedH xs k b uv).map (·.1)).Nodup := by obtain ⟨_, _, _, _, _, _, _, _, w⟩ := id dd'; exact w
      have hex : ∃ q, h'.get? a = some q := by obtain ⟨q, _, _, w, _⟩ := id dd'; exact ⟨q, w⟩
      refine ⟨_, d_write (t' := s.toks + (nestedKind X.prog X.w).draws k) I (by rw [h2]; exact True.intro) hsb hex (dictE_ok dd'), ?_⟩
      exact q ρ _ (Ext.write hm) (hs.write hl ⟨_, upd_same, h3, hn', (h5.put hk ry rz rv).ext (Ext.write hm)⟩)
    · cases hg
  · cases hg
end
end DL

set_option Elab.async false
set_option linter.all false
set_option maxRecDepth 100000
set_option autoImplicit false
/-! The data layer: dict(pairs), d.get(k, x). -/
noncomputable section
namespace DL
open PySem PySem.Spec PyProof.Rows L2
def pairsD : List D → Option (List (Key × D))
  | [] => some []
  | .tuple [k, v] :: ds => (keyD k).bind fun k => (pairsD ds).map fun r => (k, v) :: r
  | _ => none
theorem pairsD_rel {K : KW} {ρ : Rho} {H : Hp} : ∀ {ds : List D} {vs : List V} {kvs : List (Key × D)}, RepL ρ H ds vs → pairsD ds = some kvs → ∃ (ps : List Addr) (us : List (Key × V)), vs = ps.map V.ref ∧ Paired (fun p kv => SqT K.k H p [kV kv.1, kv.2]) ps us ∧ RepKV ρ H kvs us
  | [], _, kvs, .nil, h => by
    cases h
    exact ⟨[], [], rfl, .nil, .nil⟩
  | d :: ds, _, kvs, .cons (v := v) (vs := vs) r t, h => by
    cases r with
    | tup h1 h2 h3 =>
      rename_i a es us
      match es, h, h3 with
      | [k, x], h, .cons r1 (.cons r2 .nil) =>
        simp only [pairsD, Option.bind_eq_some_iff, Option.map_eq_some_iff] at h
        obtain ⟨k', e1, r', e2, rfl⟩ := h
        obtain ⟨ps, ws, rfl, g1, g2⟩ := pairsD_rel (K := K) t e2
        have ek := keyD_rel r1 e1
        subst ek
        exact ⟨a :: ps, (k', _) :: ws, rfl, .cons (SqT.of h1) g1, .cons r2 g2⟩
      | [], h, _ => simp [pairsD] at h
      | [_], h, _ => simp [pairsD] at h
      | _ :: _ :: _ :: _, h, _ => simp [pairsD] at h
    | non => simp [pairsD] at h
    | bl _ => simp [pairsD] at h
    | int _ => simp [pairsD] at h
    | str _ => simp [pairsD] at h
    | lst _ _ _ => simp [pairsD] at h
def mergeD (kvs : List (Key × D)) : List (Key × D) → List (Key × D)
  | [] => kvs
  | kv :: r => mergeD (putD kvs kv.1 kv.2) r
theorem RepKV.merge {ρ : Rho} {H : Hp} : ∀ {r : List (Key × D)} {s : List (Key × V)} {kvs : List (Key × D)} {us : List (Key × V)}, RepKV ρ H r s → RepKV ρ H kvs us → RepKV ρ H (mergeD kvs r) (mergeK us s)
  | [], _, _, _, .nil, h => h
  | (k, d) :: r, _, kvs, us, .cons (v := v) (s := s) a b, h => by
    show RepKV ρ H (mergeD (putD kvs k d) r) (mergeK (putK us k v) s)
    exact RepKV.merge b (h.put k a)
def gDict : GC := fun S ws => match ws with
  | [w] => (asL S w).bind fun ds => (pairsD ds).map fun kvs => (.loc S.length, S ++ [.dK (mergeD [] kvs)])
  | _ => none
section
variable {X : Cx} {e f o : Expr} {pos apos cpos : Pos}
theorem c_dict (hc : X.calm = true) : CallD X (.type "dict") gDict := by
  rintro pins s σ H vs us Q I rv ⟨ρ, S, ws, w, S', hs, rx, hg, q⟩
  unfold gDict at hg
  split at hg
  · rename_i w0
    obtain ⟨ds, h1, hg⟩ := Option.bind_eq_some_iff.mp hg
    rw [Option.map_eq_some_iff] at hg
    obtain ⟨kvs, h2, h3⟩ := hg
    cases h3
    obtain ⟨v, rfl, rv'⟩ := rx.one
    obtain ⟨a, xs, rfl, hq, hr⟩ := asL_rel hs rv' h1
    obtain ⟨ps, us', rfl, g1, g2⟩ := pairsD_rel (K := kwOf X) hr h2
    refine call_dictP hc pins s σ H _ us Q I rv ⟨a, ps, us', rfl, hq, g1, fun p hp => ?_⟩
    have e1 := Ext.alloc (o := .dK (mergeK [] us')) hs hp
    exact q (ρ.add p) _ _ e1 (hs.alloc hp ⟨_, upd_same, (RepKV.merge g2 .nil).ext e1⟩) (new_loc hs)
  · cases hg
/-- o.get(e, f) -/
@[simp] def mGet2 (mo mk md : ME) : ME := fun σ S => (mo σ S).bind fun r => (mk σ r.2).bind fun k => (md σ k.2).bind fun d => (lookD d.2 r.1 k.1).map fun ov => (match ov with | some x => W.d x | none => d.1, d.2)
def isDic (S : Sto) : W → Bool
  | .loc i => match S[i]? with
    | some (.dK _) => true
    | some (.dT _) => true
    | _ => false
  | _ => false
@[simp] def mGetD (mo mk md : ME) : ME := fun σ S => (mo σ S).bind fun r => if isDic r.2 r.1 = true then mGet2 mo mk md σ S else none
theorem d_get2' {mo mk md : ME} (hu : X.A.units + 1 < cLine) (ho : PD X o mo) (he : PD X e mk) (hf : PD X f md) (m : M2 X o "get" apos e f cpos) : PD X (.Call (.Attribute o "get" apos) [e, f] [] cpos) (mGetD mo mk md) :=
  peImp (pe_dget2 hu ho he hf m) fun σ H Q ⟨ρ, σd, S, w, S', hs, hE, hm, q⟩ => by
    obtain ⟨⟨w1, S1⟩, h1, hm⟩ := Option.bind_eq_some_iff.mp hm
    have hz : isDic S1 w1 = true ∧ mGet2 mo mk md σd S = some (w, S') := by
      dsimp only at hm
      split at hm
      · rename_i z; exact ⟨z, hm⟩
      · cases hm
    obtain ⟨hd, hm⟩ := hz
    obtain ⟨⟨w1', S1'⟩, h1', hm⟩ := Option.bind_eq_some_iff.mp hm
    rw [h1] at h1'
    cases h1'
    obtain ⟨⟨w2, S2⟩, h2, hm⟩ := Option.bind_eq_some_iff.mp hm
    obtain ⟨⟨w3, S3⟩, h3, hm⟩ := Option.bind_eq_some_iff.mp hm
    rw [Option.map_eq_some_iff] at hm
    obtain ⟨ov, h4, h5⟩ := hm
    cases h5
    refine ⟨ρ, σd, S, w1, S1, hs, hE, h1, fun ρ1 v1 H1 e1 s1 r1 => ?_⟩
    have isd : ∃ a, v1 = .ref a ∧ IsD H1 a := by
      unfold isDic at hd
      split at hd
      · rename_i i
        split at hd
        · rename_i kvs eS
          obtain ⟨a, rfl, _, us, g1, _⟩ := dict_at s1 r1 eS (by intro z; cases z)
          exact ⟨a, rfl, .inl ⟨us, .inl g1⟩⟩
        · rename_i kvs eS
          obtain ⟨a, rfl, _, us, g1, _⟩ := dict_at s1 r1 eS (by intro z; cases z)
          exact ⟨a, rfl, .inr ⟨us, .inl g1⟩⟩
        · cases hd
      · cases hd
    obtain ⟨a, rfl, isd⟩ := isd
    refine ⟨a, rfl, isd, ρ1, σd, S1, w2, S2, s1, hE.ext e1, h2, fun ρ2 v2 H2 e2 s2 r2 => ⟨ρ2, σd, S2, w3, S3, s2, hE.ext (e1.trans e2), h3, fun ρ3 v3 H3 e3 s3 r3 => ?_⟩⟩
    obtain ⟨a', ov', ea, g, hh⟩ := lookD_rel s3 (r1.ext (e2.trans e3)) (r2.ext e3) h4
    cases ea
    refine ⟨ov', g, ?_⟩
    rcases hh with ⟨rfl, rfl⟩ | ⟨d, t, rfl, rfl, rt⟩
    · exact q ρ3 _ H3 ((e1.trans e2).trans e3) s3 r3
    · exact q ρ3 _ H3 ((e1.trans e2).trans e3) s3 rt
/-! l.pop() -/
theorem RepL.dropLast' {ρ : Rho} {H : Hp} {ds : List D} {vs : List V} (h : RepL ρ H ds vs) : RepL ρ H ds.dropLast vs.dropLast := by
  rw [List.dropLast_eq_take, List.dropLast_eq_take, h.length]
  exact h.take _
def gPop : GM := fun S x ws => match x, ws with
  | .loc i, [] => match S[i]? with
    | some (.lst xs) => (xs[xs.length - 1]?).map fun y => (.d y, S.set i (.lst xs.dropLast))
    | _ => none
  | _, _ => none
theorem t_pop {X : Cx} : MtD X "list.pop" gPop := by
  rintro pins s σ H x vs v us Q I rx rvs ⟨ρ, S, w, ws, w', S', hs, rw', rws, hg, q⟩
  unfold gPop at hg
  split at hg
  · rename_i i
    split at hg
    · rename_i xs e
      rw [Option.map_eq_some_iff] at hg
      obtain ⟨y, hy, hg⟩ := hg
      cases hg
      obtain ⟨a, zs, rfl, hl, h2, h3⟩ := hs.lst_at rw' e
      cases rws
      have hm := List.mem_of_getElem? hl
      obtain ⟨v0, hv0, ry⟩ := h3.get hy
      refine mt_pop pins s σ H _ _ _ _ Q I rx rvs ⟨a, zs, v0, rfl, rfl, h2, by rw [← h3.length]; exact hv0, ?_⟩
      exact q ρ _ _ (Ext.write hm) (hs.write hl ⟨_, upd_same, h3.dropLast'.ext (Ext.write hm)⟩) (ry.ext (Ext.write hm))
    · cases hg
  · cases hg
end
end DL

set_option Elab.async false
set_option linter.all false
set_option maxRecDepth 100000
set_option autoImplicit false
/-! The typed layer: defs that change nothing from outside, as plain Lean functions over Int, Bool, List .. in Option; that they do so. -/
noncomputable section
namespace DL
open PySem PySem.Spec PyProof.Rows L2
/-! ### values as data -/
abbrev Enc (α : Type) := α → D
abbrev eI : Enc Int := fun i => PyData.int i
abbrev eB : Enc Bool := fun b => PyData.bool b
abbrev eS : Enc Str := fun x => PyData.str x
abbrev eN : Enc Unit := fun _ => PyData.none
abbrev eD : Enc D := fun d => d
abbrev eL {α : Type} (e : Enc α) : Enc (List α) := fun xs => PyData.list (xs.map e)
abbrev eV {α : Type} (e : Enc α) : Enc (List α) := fun xs => PyData.tuple (xs.map e)
abbrev eP {α β : Type} (e : Enc α) (f : Enc β) : Enc (α × β) := fun p => PyData.tuple [e p.1, f p.2]
abbrev eP3 {α β γ : Type} (e : Enc α) (f : Enc β) (g : Enc γ) : Enc (α × β × γ) := fun p => PyData.tuple [e p.1, f p.2.1, g p.2.2]
def eO {α : Type} (e : Enc α) : Enc (Option α)
  | none => PyData.none
  | some a => e a
/-- what a slot holds: this, an own mutable object, whatever -/
inductive Sl where
  | w (x : W) | m (o : O) | j
structure Sat (S0 : Sto) (L : List Sl) (σ : Env) (S : Sto) : Prop where
  len : σ.length = L.length
  base : S.take S0.length = S0
  w : ∀ (i : Nat) (x : W), L[i]? = some (Sl.w x) → σ[i]? = some (some x)
  m : ∃ f : Nat → Nat, (∀ (i : Nat) (o : O), L[i]? = some (Sl.m o) → σ[i]? = some (some (.loc (f i))) ∧ S0.length ≤ f i ∧ S[f i]? = some o) ∧ ∀ (i j : Nat) (o o' : O), L[i]? = some (Sl.m o) → L[j]? = some (Sl.m o') → f i = f j → i = j
theorem set_at {α : Type} {L : List α} {i j : Nat} {a b : α} (h : (L.set i a)[j]? = some b) : (i = j ∧ i < L.length ∧ a = b) ∨ (i ≠ j ∧ L[j]? = some b) := by
  rw [List.getElem?_set] at h
  split at h
  · rename_i e
    split at h
    · rename_i hl
      exact .inl ⟨e, hl, by simpa using h⟩
    · cases h
  · rename_i e
    exact .inr ⟨e, h⟩
theorem Sat.le {S0 : Sto} {L : List Sl} {σ : Env} {S : Sto} (h : Sat S0 L σ S) : S0.length ≤ S.length := by
  have := congrArg List.length h.base
  rw [List.length_take] at this
  omega
theorem Sat.setW {S0 : Sto} {L : List Sl} {σ : Env} {S : Sto} (h : Sat S0 L σ S) (i : Nat) (x : W) : Sat S0 (L.set i (.w x)) (σ.set i (some x)) S := by
  refine ⟨by simp [h.len], h.base, fun j y e => ?_, ?_⟩
  · rcases set_at e with ⟨rfl, hl, q⟩ | ⟨hne, q⟩
    · cases q
      rw [List.getElem?_set_self (by rw [h.len]; exact hl)]
    · rw [List.getElem?_set_ne hne]
      exact h.w j y q
  · obtain ⟨f, h1, h2⟩ := h.m
    refine ⟨f, fun j o e => ?_, fun j k o o' e1 e2 => ?_⟩
    · rcases set_at e with ⟨rfl, hl, q⟩ | ⟨hne, q⟩
      · cases q
      · rw [List.getElem?_set_ne hne]
        exact h1 j o q
    · rcases set_at e1 with ⟨rfl, _, q⟩ | ⟨hne, q1⟩
      · cases q
      · rcases set_at e2 with ⟨rfl, _, q⟩ | ⟨hne, q2⟩
        · cases q
        · exact h2 j k o o' q1 q2
theorem Sat.setJ {S0 : Sto} {L : List Sl} {σ : Env} {S : Sto} (h : Sat S0 L σ S) (i : Nat) (x : Option W) : Sat S0 (L.set i .j) (σ.set i x) S := by
  refine ⟨by simp [h.len], h.base, fun j y e => ?_, ?_⟩
  · rcases set_at e with ⟨rfl, hl, q⟩ | ⟨hne, q⟩
    · cases q
    · rw [List.getElem?_set_ne hne]
      exact h.w j y q
  · obtain ⟨f, h1, h2⟩ := h.m
    refine ⟨f, fun j o e => ?_, fun j k o o' e1 e2 => ?_⟩
    · rcases set_at e with ⟨rfl, hl, q⟩ | ⟨hne, q⟩
      · cases q
      · rw [List.getElem?_set_ne hne]
        exact h1 j o q
    · rcases set_at e1 with ⟨rfl, _, q⟩ | ⟨hne, q1⟩
      · cases q
      · rcases set_at e2 with ⟨rfl, _, q⟩ | ⟨hne, q2⟩
        · cases q
        · exact h2 j k o o' q1 q2
/-- a new object behind all -/
theorem Sat.push {S0 : Sto} {L : List Sl} {σ : Env} {S : Sto} (h : Sat S0 L σ S) (o : O) : Sat S0 L σ (S ++ [o]) := by
  have hle := h.le
  refine ⟨h.len, by rw [List.take_append_of_le_length hle]; exact h.base, h.w, ?_⟩
  obtain ⟨f, h1, h2⟩ := h.m
  refine ⟨f, fun j o' e => ?_, h2⟩
  obtain ⟨a, b, c⟩ := h1 j o' e
  exact ⟨a, b, by rw [List.getElem?_append_left (List.getElem?_eq_some_iff.mp c).1]; exact c⟩
theorem Sat.setM {S0 : Sto} {L : List Sl} {σ : Env} {S : Sto} (h : Sat S0 L σ S) (i n : Nat) (o : O) (hn : S[n]? = some o) (h0 : S0.length ≤ n) (hf : ∀ (j : Nat), σ[j]? = some (some (.loc n)) → ∀ o', L[j]? ≠ some (.m o')) : Sat S0 (L.set i (.m o)) (σ.set i (some (.loc n))) S := by
  refine ⟨by simp [h.len], h.base, fun j y e => ?_, ?_⟩
  · rcases set_at e with ⟨rfl, hl, q⟩ | ⟨hne, q⟩
    · cases q
    · rw [List.getElem?_set_ne hne]
      exact h.w j y q
  · obtain ⟨f, h1, h2⟩ := h.m
    obtain ⟨g, g1, g2⟩ : ∃ g : Nat → Nat, g i = n ∧ ∀ k, i ≠ k → g k = f k := ⟨fun k => if k = i then n else f k, by simp, fun k hk => if_neg fun z => hk z.symm⟩
    refine ⟨g, fun j o' e => ?_, fun j k o1 o2 e1 e2 ef => ?_⟩
    · rcases set_at e with ⟨rfl, hl, q⟩ | ⟨hne, q⟩
      · cases q
        rw [List.getElem?_set_self (by rw [h.len]; exact hl), g1]
        exact ⟨rfl, h0, hn⟩
      · rw [List.getElem?_set_ne hne, g2 j hne]
        exact h1 j o' q
    · rcases set_at e1 with ⟨rfl, _, q⟩ | ⟨hne, q1⟩
      · rcases set_at e2 with ⟨rfl, _, q'⟩ | ⟨hne', q2⟩
        · rfl
        · rw [g1, g2 k hne'] at ef
          have := (h1 k o2 q2).1
          rw [← ef] at this
          exact absurd q2 (hf k this o2)
      · rcases set_at e2 with ⟨rfl, _, q'⟩ | ⟨hne', q2⟩
        · rw [g1, g2 j hne] at ef
          have := (h1 j o1 q1).1
          rw [ef] at this
          exact absurd q1 (hf j this o1)
        · rw [g2 j hne, g2 k hne'] at ef
          exact h2 j k o1 o2 q1 q2 ef
/-- an own object is written -/
theorem Sat.write {S0 : Sto} {L : List Sl} {σ : Env} {S : Sto} (h : Sat S0 L σ S) {i : Nat} {o : O} (e : L[i]? = some (.m o)) : ∃ n, σ[i]? = some (some (.loc n)) ∧ S[n]? = some o ∧ ∀ o', Sat S0 (L.set i (.m o')) σ (S.set n o') := by
  obtain ⟨f, h1, h2⟩ := h.m
  obtain ⟨a, b, c⟩ := h1 i o e
  have hlen := (List.getElem?_eq_some_iff.mp c).1
  refine ⟨f i, a, c, fun o' => ⟨by simp [h.len], by rw [List.take_set_of_le b]; exact h.base, fun j y q => ?_, f, fun j o2 q => ?_, fun j k o1 o2 e1 e2 ef => ?_⟩⟩
  · rcases set_at q with ⟨rfl, hl, q⟩ | ⟨hne, q⟩
    · cases q
    · exact h.w j y q
  · rcases set_at q with ⟨rfl, hl, q⟩ | ⟨hne, q⟩
    · cases q
      exact ⟨a, b, by rw [List.getElem?_set_self hlen]⟩
    · obtain ⟨a', b', c'⟩ := h1 j o2 q
      refine ⟨a', b', ?_⟩
      rw [List.getElem?_set_ne (fun z => hne (h2 i j o o2 e q z))]
      exact c'
  · have g : ∀ (j : Nat) (o1 : O), (L.set i (Sl.m o'))[j]? = some (Sl.m o1) → ∃ o3, L[j]? = some (Sl.m o3) := fun j o1 q => by
      rcases set_at q with ⟨rfl, _, _⟩ | ⟨_, q⟩
      · exact ⟨o, e⟩
      · exact ⟨o1, q⟩
    obtain ⟨o3, g1⟩ := g j o1 e1
    obtain ⟨o4, g2⟩ := g k o2 e2
    exact h2 j k o3 o4 g1 g2 ef
/-- an own object becomes data -/
theorem Sat.kill {S0 : Sto} {L : List Sl} {σ : Env} {S : Sto} (h : Sat S0 L σ S) {i : Nat} {o : O} (e : L[i]? = some (.m o)) : ∃ n, σ[i]? = some (some (.loc n)) ∧ S[n]? = some o ∧ ∀ o' x, Sat S0 (L.set i (.w x)) (σ.set i (some x)) (S.set n o') := by
  obtain ⟨n, a, b, c⟩ := h.write e
  refine ⟨n, a, b, fun o' x => ?_⟩
  have := (c o').setW i x
  rw [List.set_set] at this
  exact this
/-- less is said -/
def Le : List Sl → List Sl → Prop
  | [], [] => True
  | a :: l, b :: l' => (b = .j ∨ a = b) ∧ Le l l'
  | _, _ => False
theorem Le.at : ∀ {L L' : List Sl}, Le L L' → L.length = L'.length ∧ ∀ (i : Nat) (x : Sl), L'[i]? = some x → x ≠ .j → L[i]? = some x
  | [], [], _ => ⟨rfl, fun i x h => by simp at h⟩
  | a :: l, b :: l', ⟨h1, h2⟩ => by
    obtain ⟨g1, g2⟩ := Le.at h2
    refine ⟨by simp [g1], fun i x h hx => ?_⟩
    cases i with
    | zero =>
      simp at h
      subst h
      rcases h1 with rfl | rfl
      · exact absurd rfl hx
      · rfl
    | succ i => simpa using g2 i x (by simpa using h) hx
  | [], _ :: _, h => h.elim
  | _ :: _, [], h => h.elim
theorem Le.refl : ∀ L : List Sl, Le L L
  | [] => trivial
  | a :: l => ⟨.inr rfl, Le.refl l⟩
theorem Sat.weak {S0 : Sto} {L L' : List Sl} {σ : Env} {S : Sto} (h : Sat S0 L σ S) (l : Le L L') : Sat S0 L' σ S := by
  obtain ⟨l1, l2⟩ := l.at
  obtain ⟨f, h1, h2⟩ := h.m
  exact ⟨by rw [h.len, l1], h.base, fun i x e => h.w i x (l2 i _ e (by intro z; cases z)), f, fun i o e => h1 i o (l2 i _ e (by intro z; cases z)), fun i j o o' e1 e2 => h2 i j o o' (l2 i _ e1 (by intro z; cases z)) (l2 j _ e2 (by intro z; cases z))⟩
@[simp] def wipeL (L : List Sl) : List Nat → List Sl
  | [] => L
  | v :: vs => (wipeL L vs).set v .j
theorem Sat.wipe {S0 : Sto} {L : List Sl} {σ : Env} {S : Sto} (h : Sat S0 L σ S) : ∀ vs, Sat S0 (wipeL L vs) (wipeD σ vs) S
  | [] => h
  | v :: vs => (Sat.wipe h vs).setJ v none
/-! ### what is said of terms -/
section
variable {α β γ δ ρ : Type}
def Ev (L : List Sl) (m : ME) (e : Enc α) (p : Option α) : Prop := ∀ S0 σ S, Sat S0 L σ S → ∀ v, p = some v → m σ S = some (.d (e v), S)
def Te (L : List Sl) (m : MT) (p : Option Bool) : Prop := ∀ S0 σ S, Sat S0 L σ S → ∀ v, p = some v → m σ S = some (v, S)
def EvL (L : List Sl) (m : MA) (e : Enc α) (p : Option (List α)) : Prop := ∀ S0 σ S, Sat S0 L σ S → ∀ vs, p = some vs → m σ S = some (vs.map fun v => .d (e v), S)
def It (L : List Sl) (m : MI) (e : Enc α) (p : Option (List α)) : Prop := ∀ S0 σ S, Sat S0 L σ S → ∀ vs, p = some vs → m σ S = some (vs.map e, S)
def EvP (L : List Sl) (m : MP) (p : Option (Option Int)) : Prop := ∀ S0 σ S, Sat S0 L σ S → ∀ v, p = some v → m σ S = some (v, S)
/-- a value, or a new own object -/
def EvS (L : List Sl) (m : ME) (p : Option α) (sl : α → Sl) : Prop := ∀ S0 σ S, Sat S0 L σ S → ∀ v, p = some v → (∃ x, sl v = .w x ∧ m σ S = some (x, S)) ∨ ∃ o, sl v = .m o ∧ m σ S = some (.loc S.length, S ++ [o])
def StN (L : List Sl) (m : MS) (p : Option α) (L1 : α → List Sl) : Prop := ∀ S0 σ S, Sat S0 L σ S → ∀ a, p = some a → ∃ σ' S', m σ S = some (.nx σ' S') ∧ Sat S0 (L1 a) σ' S'
def StF (L : List Sl) (m : MS) (e : Enc ρ) (p : Option ρ) : Prop := ∀ S0 σ S, Sat S0 L σ S → ∀ r, p = some r → ∃ S', m σ S = some (.rt (.d (e r)) S') ∧ S'.take S0.length = S0
def StR (L : List Sl) (m : MS) (e : Enc ρ) (p : Option (α ⊕ ρ)) (L1 : α → List Sl) : Prop := ∀ S0 σ S, Sat S0 L σ S →
  (∀ a, p = some (.inl a) → ∃ σ' S', m σ S = some (.nx σ' S') ∧ Sat S0 (L1 a) σ' S') ∧ ∀ r, p = some (.inr r) → ∃ S', m σ S = some (.rt (.d (e r)) S') ∧ S'.take S0.length = S0
def Tg (g : MG) (e : Enc α) (bnd : List Sl → α → List Sl) : Prop := ∀ S0 L σ S, Sat S0 L σ S → ∀ a, ∃ σ1, g (.d (e a)) σ = some σ1 ∧ Sat S0 (bnd L a) σ1 S
abbrev G2T (g : G2) (e : Enc α) (f : Enc β) (h : Enc γ) (o : α → β → Option γ) : Prop := ∀ S a b c, o a b = some c → g S (.d (e a)) (.d (f b)) = some (.d (h c))
abbrev G1T (g : Sto → W → Option W) (e : Enc α) (f : Enc β) (o : α → Option β) : Prop := ∀ S a b, o a = some b → g S (.d (e a)) = some (.d (f b))
abbrev FnT0 (F : Fn) (e : Enc ρ) (f : Option ρ) : Prop := ∀ S r, f = some r → F [] S = some (.d (e r), S)
abbrev FnT1 (F : Fn) (e1 : Enc α) (e : Enc ρ) (f : α → Option ρ) : Prop := ∀ S a r, f a = some r → F [.d (e1 a)] S = some (.d (e r), S)
abbrev FnT2 (F : Fn) (e1 : Enc α) (e2 : Enc β) (e : Enc ρ) (f : α → β → Option ρ) : Prop := ∀ S a b r, f a b = some r → F [.d (e1 a), .d (e2 b)] S = some (.d (e r), S)
abbrev FnT3 (F : Fn) (e1 : Enc α) (e2 : Enc β) (e3 : Enc γ) (e : Enc ρ) (f : α → β → γ → Option ρ) : Prop := ∀ S a b c r, f a b c = some r → F [.d (e1 a), .d (e2 b), .d (e3 c)] S = some (.d (e r), S)
abbrev FnT4 (F : Fn) (e1 : Enc α) (e2 : Enc β) (e3 : Enc γ) (e4 : Enc δ) (e : Enc ρ) (f : α → β → γ → δ → Option ρ) : Prop := ∀ S a b c d r, f a b c d = some r → F [.d (e1 a), .d (e2 b), .d (e3 c), .d (e4 d)] S = some (.d (e r), S)
/-! ### what plain terms are made of -/
@[simp] def pB1 (f : α → Option β) (p : Option α) : Option β := p.bind f
@[simp] def pB2 (f : α → β → Option γ) (p : Option α) (q : Option β) : Option γ := p.bind fun a => q.bind fun b => f a b
@[simp] def pB3 (f : α → β → γ → Option δ) (p : Option α) (q : Option β) (r : Option γ) : Option δ := p.bind fun a => q.bind fun b => r.bind fun c => f a b c
@[simp] def pB4 {ε : Type} (f : α → β → γ → δ → Option ε) (p : Option α) (q : Option β) (r : Option γ) (s : Option δ) : Option ε := p.bind fun a => q.bind fun b => r.bind fun c => s.bind fun d => f a b c d
@[simp] def pIf (t : Option Bool) (a b : Option α) : Option α := t.bind fun c => if c = true then a else b
@[simp] def pAnd (a b : Option Bool) : Option Bool := a.bind fun c => if c = true then b else some false
@[simp] def pOr (a b : Option Bool) : Option Bool := a.bind fun c => if c = true then some true else b
@[simp] def pNot (a : Option Bool) : Option Bool := a.map fun c => !c
def pComp (t : α → Option Bool) (m : α → Option β) : List α → Option (List β)
  | [] => some []
  | x :: xs => (t x).bind fun c => if c = true then (m x).bind fun y => (pComp t m xs).map fun ys => y :: ys else pComp t m xs
def pFor (b : α → β → Option α) : List β → α → Option α
  | [], a => some a
  | x :: xs, a => (b a x).bind fun a' => pFor b xs a'
def pForR (b : α → β → Option (α ⊕ ρ)) : List β → α → Option (α ⊕ ρ)
  | [], a => some (.inl a)
  | x :: xs, a => (b a x).bind fun r => match r with
    | .inl a' => pForR b xs a'
    | .inr r => some (.inr r)
def pWhile (c : α → Option Bool) (b : α → Option α) : Nat → α → Option α
  | 0, _ => none
  | n + 1, a => (c a).bind fun k => if k = true then (b a).bind fun a' => pWhile c b n a' else some a
@[simp] def pSeqR {α' : Type} (p : Option (α ⊕ ρ)) (q : α → Option (α' ⊕ ρ)) : Option (α' ⊕ ρ) := p.bind fun r => match r with
  | .inl a => q a
  | .inr r => some (.inr r)
@[simp] def pSeqF (p : Option (α ⊕ ρ)) (q : α → Option ρ) : Option ρ := p.bind fun r => match r with
  | .inl a => q a
  | .inr r => some r
def okLen (n : Nat) : Bool := Nat.ble n 16777216
def pFit (xs : List α) : Option (List α) := if okLen xs.length = true then some xs else none
def pRange (lo hi : Int) : Option (List Int) := if decide (-4611686018427387904 ≤ lo ∧ lo < 4611686018427387904 ∧ -4611686018427387904 ≤ hi ∧ hi < 4611686018427387904) = true then some (rangeI lo (hi - lo).toNat) else none
where rangeI (lo : Int) : Nat → List Int
  | 0 => []
  | n + 1 => lo :: rangeI (lo + 1) n
def pMul (a b : Int) : Option Int := if decide (-18446744073709551616 < a ∧ a < 18446744073709551616) || decide (-18446744073709551616 < b ∧ b < 18446744073709551616) then some (a * b) else none
def pDiv (a b : Int) : Option Int := if decide (0 < b ∧ b < 18446744073709551616) = true then some (a / b) else none
def pMod (a b : Int) : Option Int := if decide (0 < b) = true then some (a % b) else none
def pPow (a b : Int) : Option Int := if decide (0 ≤ b ∧ b ≤ 1000000 ∧ a.natAbs < 18446744073709551616) = true then some (a ^ b.toNat) else none
def pApp (xs ys : List α) : Option (List α) := pFit (xs ++ ys)
def pIx (xs : List α) (i : Int) : Option α := atI xs i
def pCut (xs : List α) (lo hi : Option Int) : Option (List α) := some ((xs.drop (HT.sIx xs.length 0 lo)).take (HT.sIx xs.length xs.length hi - HT.sIx xs.length 0 lo))
def pMaxL : List Int → Option Int
  | [] => none
  | m :: ms => some (maxL m ms)
def pMinL : List Int → Option Int
  | [] => none
  | m :: ms => some (minL m ms)
def enumI (lo : Int) : List α → List (Int × α)
  | [] => []
  | x :: xs => (lo, x) :: enumI (lo + 1) xs
end
end DL

set_option Elab.async false
set_option linter.all false
set_option maxRecDepth 100000
set_option autoImplicit false
/-! The typed layer, its rules. -/
noncomputable section
namespace DL
open PySem PySem.Spec PyProof.Rows L2
section
variable {α β γ δ ρ : Type} {L : List Sl} {e : Enc α} {f : Enc β} {h : Enc γ} {o : Enc δ} {er : Enc ρ}
theorem bs {α β : Type} {x : Option α} {g : α → Option β} {b : β} (h : x.bind g = some b) : ∃ a, x = some a ∧ g a = some b := Option.bind_eq_some_iff.mp h
/-! ### expressions -/
theorem Ev.var (i : Nat) {v : α} (hL : L[i]? = some (.w (.d (e v))) := by rfl) : Ev L (mVar i) e (some v) := fun S0 σ S s w hw => by
  cases hw
  simp [s.w i _ hL]
theorem Ev.c {v : α} {w : W} (hw : w = .d (e v) := by rfl) : Ev L (mC w) e (some v) := fun S0 σ S s v' hv => by
  cases hv
  subst hw
  rfl
theorem Ev.opt {m : ME} {p : Option α} (h1 : Ev L m e p) : Ev L m (eO e) (p.map some) := fun S0 σ S s v hv => by
  rw [Option.map_eq_some_iff] at hv
  obtain ⟨a, h2, rfl⟩ := hv
  exact h1 S0 σ S s a h2
theorem Ev.none : Ev L mNone (eO e) (some none) := fun S0 σ S s v hv => by cases hv; rfl
theorem Ev.bin {g : G2} {op : α → β → Option γ} {m1 m2 : ME} {p1 : Option α} {p2 : Option β} (hg : G2T g e f h op) (h1 : Ev L m1 e p1) (h2 : Ev L m2 f p2) : Ev L (mBin g m1 m2) h (pB2 op p1 p2) := fun S0 σ S s v hv => by
  obtain ⟨a, ha, hv⟩ := bs hv
  obtain ⟨b, hb, hv⟩ := bs hv
  simp [h1 S0 σ S s a ha, h2 S0 σ S s b hb, hg S a b v hv]
theorem Ev.un {g : G1} {op : α → Option β} {m1 : ME} {p1 : Option α} (hg : G1T g e f op) (h1 : Ev L m1 e p1) : Ev L (mUn g m1) f (pB1 op p1) := fun S0 σ S s v hv => by
  obtain ⟨a, ha, hv⟩ := bs hv
  simp [h1 S0 σ S s a ha, hg S a v hv]
theorem Ev.chain {g g' : G2} {op : α → β → Option Bool} {op' : β → γ → Option Bool} {m1 m2 m3 : ME} {p1 : Option α} {p2 : Option β} {p3 : Option γ} (hg : G2T g e f eB op) (hg' : G2T g' f h eB op') (h1 : Ev L m1 e p1) (h2 : Ev L m2 f p2) (h3 : Ev L m3 h p3) :
    Ev L (mChain g g' m1 m2 m3) eB (p1.bind fun a => p2.bind fun b => (op a b).bind fun k => if k = true then p3.bind fun c => op' b c else some false) := fun S0 σ S s v hv => by
  obtain ⟨a, ha, hv⟩ := bs hv
  obtain ⟨b, hb, hv⟩ := bs hv
  obtain ⟨k, hk, hv⟩ := bs hv
  cases k with
  | true =>
    obtain ⟨c, hc, hv⟩ := bs (by simpa using hv)
    simp [h1 S0 σ S s a ha, h2 S0 σ S s b hb, hg S a b _ hk, h3 S0 σ S s c hc, hg' S b c v hv]
  | false =>
    have : v = false := by simpa using hv.symm
    subst this
    simp [h1 S0 σ S s a ha, h2 S0 σ S s b hb, hg S a b _ hk]
theorem Ev.and {m1 m2 : ME} {p1 p2 : Option Bool} (h1 : Ev L m1 eB p1) (h2 : Ev L m2 eB p2) : Ev L (mAnd m1 m2) eB (pAnd p1 p2) := fun S0 σ S s v hv => by
  obtain ⟨a, ha, hv⟩ := bs hv
  cases a with
  | true => simp [h1 S0 σ S s true ha, h2 S0 σ S s v (by simpa using hv)]
  | false =>
    have : v = false := by simpa using hv.symm
    subst this
    simp [h1 S0 σ S s false ha]
theorem Ev.or {m1 m2 : ME} {p1 p2 : Option Bool} (h1 : Ev L m1 eB p1) (h2 : Ev L m2 eB p2) : Ev L (mOr m1 m2) eB (pOr p1 p2) := fun S0 σ S s v hv => by
  obtain ⟨a, ha, hv⟩ := bs hv
  cases a with
  | true =>
    have : v = true := by simpa using hv.symm
    subst this
    simp [h1 S0 σ S s true ha]
  | false => simp [h1 S0 σ S s false ha, h2 S0 σ S s v (by simpa using hv)]
theorem Ev.not {m1 : ME} {p1 : Option Bool} (h1 : Ev L m1 eB p1) : Ev L (mNot m1) eB (pNot p1) := fun S0 σ S s v hv => by
  have hv : p1.map (fun c => !c) = some v := hv
  rw [Option.map_eq_some_iff] at hv
  obtain ⟨a, ha, rfl⟩ := hv
  simp [h1 S0 σ S s a ha]
theorem Ev.ite {t : MT} {m1 m2 : ME} {pt : Option Bool} {p1 p2 : Option α} (ht : Te L t pt) (h1 : Ev L m1 e p1) (h2 : Ev L m2 e p2) : Ev L (mIf t m1 m2) e (pIf pt p1 p2) := fun S0 σ S s v hv => by
  obtain ⟨a, ha, hv⟩ := bs hv
  cases a with
  | true => simp [ht S0 σ S s true ha, h1 S0 σ S s v (by simpa using hv)]
  | false => simp [ht S0 σ S s false ha, h2 S0 σ S s v (by simpa using hv)]
theorem Te.b {m1 : ME} {p1 : Option Bool} (h1 : Ev L m1 eB p1) : Te L (mB m1) p1 := fun S0 σ S s v hv => by simp [h1 S0 σ S s v hv]
theorem Te.and {m1 m2 : MT} {p1 p2 : Option Bool} (h1 : Te L m1 p1) (h2 : Te L m2 p2) : Te L (mAndT m1 m2) (pAnd p1 p2) := fun S0 σ S s v hv => by
  obtain ⟨a, ha, hv⟩ := bs hv
  cases a with
  | true => simp [h1 S0 σ S s true ha, h2 S0 σ S s v (by simpa using hv)]
  | false =>
    have : v = false := by simpa using hv.symm
    subst this
    simp [h1 S0 σ S s false ha]
theorem Te.or {m1 m2 : MT} {p1 p2 : Option Bool} (h1 : Te L m1 p1) (h2 : Te L m2 p2) : Te L (mOrT m1 m2) (pOr p1 p2) := fun S0 σ S s v hv => by
  obtain ⟨a, ha, hv⟩ := bs hv
  cases a with
  | true =>
    have : v = true := by simpa using hv.symm
    subst this
    simp [h1 S0 σ S s true ha]
  | false => simp [h1 S0 σ S s false ha, h2 S0 σ S s v (by simpa using hv)]
theorem Te.not {m1 : MT} {p1 : Option Bool} (h1 : Te L m1 p1) : Te L (mNotT m1) (pNot p1) := fun S0 σ S s v hv => by
  have hv : p1.map (fun c => !c) = some v := hv
  rw [Option.map_eq_some_iff] at hv
  obtain ⟨a, ha, rfl⟩ := hv
  simp [h1 S0 σ S s a ha]
theorem Te.yes : Te L mYes (some true) := fun S0 σ S s v hv => by cases hv; rfl
/-! displays -/
theorem EvL.nil : EvL L mNil e (some []) := fun S0 σ S s v hv => by cases hv; rfl
theorem EvL.cons {m1 : ME} {m : MA} {p1 : Option α} {p : Option (List α)} (h1 : Ev L m1 e p1) (h2 : EvL L m e p) : EvL L (mCons m1 m) e (pB2 (fun x xs => some (x :: xs)) p1 p) := fun S0 σ S s v hv => by
  obtain ⟨a, ha, hv⟩ := bs hv
  obtain ⟨b, hb, hv⟩ := bs hv
  cases hv
  simp [h1 S0 σ S s a ha, h2 S0 σ S s b hb]
theorem asDs_map (e : Enc α) : ∀ vs : List α, asDs (vs.map fun v => W.d (e v)) = some (vs.map e)
  | [] => rfl
  | v :: vs => by simp [asDs_map e vs]
theorem okLen_iff {n : Nat} : okLen n = true ↔ n ≤ 16777216 := by unfold okLen; simp
theorem fits_of {n : Nat} (h : okLen n = true) : fits n = true := decide_eq_true (okLen_iff.mp h)
theorem pFit_some {xs ys : List α} (h : pFit xs = some ys) : ys = xs ∧ fits xs.length = true ∧ xs.length ≤ 16777216 := by
  unfold pFit at h
  split at h
  · rename_i q
    cases h
    exact ⟨rfl, fits_of q, okLen_iff.mp q⟩
  · cases h
theorem pFit_of {xs : List α} (h : xs.length ≤ 16777216) : pFit xs = some xs := by unfold pFit; rw [if_pos (okLen_iff.mpr h)]
theorem Ev.vtup {m : MA} {p : Option (List α)} (h1 : EvL L m e p) : Ev L (mTup m) (eV e) (pB1 pFit p) := fun S0 σ S s v hv => by
  obtain ⟨a, ha, hv⟩ := bs hv
  obtain ⟨rfl, hf, _⟩ := pFit_some hv
  simp [h1 S0 σ S s _ ha, asDs_map, hf]
theorem Ev.lst {m : MA} {p : Option (List α)} (h1 : EvL L m e p) : Ev L (mLst m) (eL e) (pB1 pFit p) := fun S0 σ S s v hv => by
  obtain ⟨a, ha, hv⟩ := bs hv
  obtain ⟨rfl, hf, _⟩ := pFit_some hv
  simp [h1 S0 σ S s _ ha, asDs_map, hf]
theorem Ev.pair {m1 m2 : ME} {p1 : Option α} {p2 : Option β} (h1 : Ev L m1 e p1) (h2 : Ev L m2 f p2) : Ev L (mTup (mCons m1 (mCons m2 mNil))) (eP e f) (pB2 (fun a b => some (a, b)) p1 p2) := fun S0 σ S s v hv => by
  obtain ⟨a, ha, hv⟩ := bs hv
  obtain ⟨b, hb, hv⟩ := bs hv
  cases hv
  have : fits 2 = true := by decide
  simp [h1 S0 σ S s a ha, h2 S0 σ S s b hb, this]
theorem Ev.trip {m1 m2 m3 : ME} {p1 : Option α} {p2 : Option β} {p3 : Option γ} (h1 : Ev L m1 e p1) (h2 : Ev L m2 f p2) (h3 : Ev L m3 h p3) : Ev L (mTup (mCons m1 (mCons m2 (mCons m3 mNil)))) (eP3 e f h) (pB3 (fun a b c => some (a, b, c)) p1 p2 p3) := fun S0 σ S s v hv => by
  obtain ⟨a, ha, hv⟩ := bs hv
  obtain ⟨b, hb, hv⟩ := bs hv
  obtain ⟨c, hc, hv⟩ := bs hv
  cases hv
  have : fits 3 = true := by decide
  simp [h1 S0 σ S s a ha, h2 S0 σ S s b hb, h3 S0 σ S s c hc, this]
/-! calls -/
theorem Ev.c1 {g : Sto → W → Option W} {op : α → Option β} {m : ME} {p : Option α} (hg : G1T g e f op) (h1 : Ev L m e p) : Ev L (mCall (pure1 g) (mCons m mNil)) f (pB1 op p) := fun S0 σ S s v hv => by
  obtain ⟨a, ha, hv⟩ := bs hv
  simp [h1 S0 σ S s a ha, hg S a v hv]
theorem Ev.c2 {g : Sto → W → W → Option W} {op : α → β → Option γ} {m1 m2 : ME} {p1 : Option α} {p2 : Option β} (hg : G2T g e f h op) (h1 : Ev L m1 e p1) (h2 : Ev L m2 f p2) : Ev L (mCall (pure2 g) (mCons m1 (mCons m2 mNil))) h (pB2 op p1 p2) := fun S0 σ S s v hv => by
  obtain ⟨a, ha, hv⟩ := bs hv
  obtain ⟨b, hb, hv⟩ := bs hv
  simp [h1 S0 σ S s a ha, h2 S0 σ S s b hb, hg S a b v hv]
theorem Ev.f0 {F : Fn} {q : Option ρ} (hF : FnT0 F er q) : Ev L (mCallF 0 F mNil) er q := fun S0 σ S s v hv => by simp [hF S v hv]
theorem Ev.f1 {F : Fn} {q : α → Option ρ} {m : ME} {p : Option α} (hF : FnT1 F e er q) (h1 : Ev L m e p) : Ev L (mCallF 1 F (mCons m mNil)) er (pB1 q p) := fun S0 σ S s v hv => by
  obtain ⟨a, ha, hv⟩ := bs hv
  simp [h1 S0 σ S s a ha, hF S a v hv]
theorem Ev.f2 {F : Fn} {q : α → β → Option ρ} {m1 m2 : ME} {p1 : Option α} {p2 : Option β} (hF : FnT2 F e f er q) (h1 : Ev L m1 e p1) (h2 : Ev L m2 f p2) : Ev L (mCallF 2 F (mCons m1 (mCons m2 mNil))) er (pB2 q p1 p2) := fun S0 σ S s v hv => by
  obtain ⟨a, ha, hv⟩ := bs hv
  obtain ⟨b, hb, hv⟩ := bs hv
  simp [h1 S0 σ S s a ha, h2 S0 σ S s b hb, hF S a b v hv]
theorem Ev.f3 {F : Fn} {q : α → β → γ → Option ρ} {m1 m2 m3 : ME} {p1 : Option α} {p2 : Option β} {p3 : Option γ} (hF : FnT3 F e f h er q) (h1 : Ev L m1 e p1) (h2 : Ev L m2 f p2) (h3 : Ev L m3 h p3) : Ev L (mCallF 3 F (mCons m1 (mCons m2 (mCons m3 mNil)))) er (pB3 q p1 p2 p3) := fun S0 σ S s v hv => by
  obtain ⟨a, ha, hv⟩ := bs hv
  obtain ⟨b, hb, hv⟩ := bs hv
  obtain ⟨c, hc, hv⟩ := bs hv
  simp [h1 S0 σ S s a ha, h2 S0 σ S s b hb, h3 S0 σ S s c hc, hF S a b c v hv]
theorem Ev.f4 {F : Fn} {q : α → β → γ → δ → Option ρ} {m1 m2 m3 m4 : ME} {p1 : Option α} {p2 : Option β} {p3 : Option γ} {p4 : Option δ} (hF : FnT4 F e f h o er q) (h1 : Ev L m1 e p1) (h2 : Ev L m2 f p2) (h3 : Ev L m3 h p3) (h4 : Ev L m4 o p4) : Ev L (mCallF 4 F (mCons m1 (mCons m2 (mCons m3 (mCons m4 mNil))))) er (pB4 q p1 p2 p3 p4) := fun S0 σ S s v hv => by
  obtain ⟨a, ha, hv⟩ := bs hv
  obtain ⟨b, hb, hv⟩ := bs hv
  obtain ⟨c, hc, hv⟩ := bs hv
  obtain ⟨d, hd, hv⟩ := bs hv
  simp [h1 S0 σ S s a ha, h2 S0 σ S s b hb, h3 S0 σ S s c hc, h4 S0 σ S s d hd, hF S a b c d v hv]
/-! slices -/
theorem EvP.none : EvP L mNoP (some Option.none) := fun S0 σ S s v hv => by cases hv; rfl
theorem EvP.some {m : ME} {p : Option Int} (h1 : Ev L m eI p) : EvP L (mP m) (p.map Option.some) := fun S0 σ S s v hv => by
  rw [Option.map_eq_some_iff] at hv
  obtain ⟨a, ha, rfl⟩ := hv
  simp [h1 S0 σ S s a ha]
theorem cutD_map (e : Enc α) (xs : List α) (lo hi : Option Int) {ys : List α} (hc : pCut xs lo hi = Option.some ys) : cutD (xs.map e) lo hi = ys.map e := by
  cases hc
  simp [cutD, List.map_take, List.map_drop]
theorem Ev.cutL {m : ME} {ml mh : MP} {p : Option (List α)} {pl ph : Option (Option Int)} (h1 : Ev L m (eL e) p) (h2 : EvP L ml pl) (h3 : EvP L mh ph) : Ev L (mCut m ml mh) (eL e) (pB3 pCut p pl ph) := fun S0 σ S s v hv => by
  obtain ⟨a, ha, hv⟩ := bs hv
  obtain ⟨b, hb, hv⟩ := bs hv
  obtain ⟨c, hc, hv⟩ := bs hv
  simp [h1 S0 σ S s a ha, h2 S0 σ S s b hb, h3 S0 σ S s c hc, vCut, cutD_map e a b c hv]
theorem Ev.cutV {m : ME} {ml mh : MP} {p : Option (List α)} {pl ph : Option (Option Int)} (h1 : Ev L m (eV e) p) (h2 : EvP L ml pl) (h3 : EvP L mh ph) : Ev L (mCut m ml mh) (eV e) (pB3 pCut p pl ph) := fun S0 σ S s v hv => by
  obtain ⟨a, ha, hv⟩ := bs hv
  obtain ⟨b, hb, hv⟩ := bs hv
  obtain ⟨c, hc, hv⟩ := bs hv
  simp [h1 S0 σ S s a ha, h2 S0 σ S s b hb, h3 S0 σ S s c hc, vCut, cutD_map e a b c hv]
theorem Ev.rev {m : ME} {p : Option (List α)} (h1 : Ev L m (eL e) p) : Ev L (mRev m) (eL e) (p.map List.reverse) := fun S0 σ S s v hv => by
  rw [Option.map_eq_some_iff] at hv
  obtain ⟨a, ha, rfl⟩ := hv
  simp [h1 S0 σ S s a ha]
/-! subscripts -/
theorem atI_map {α β : Type} (e : α → β) (xs : List α) (i : Int) : atI (xs.map e) i = (atI xs i).map e := by
  unfold atI
  rw [List.length_map]
  cases ixN xs.length i <;> simp
theorem Ev.fst {m : ME} {p : Option (α × β)} (h1 : Ev L m (eP e f) p) : Ev L (mBin vIx m (mInt 0)) e (p.map Prod.fst) := fun S0 σ S s v hv => by
  rw [Option.map_eq_some_iff] at hv
  obtain ⟨a, ha, rfl⟩ := hv
  simp [h1 S0 σ S s a ha, atI, ixN]
theorem Ev.snd {m : ME} {p : Option (α × β)} (h1 : Ev L m (eP e f) p) : Ev L (mBin vIx m (mInt 1)) f (p.map Prod.snd) := fun S0 σ S s v hv => by
  rw [Option.map_eq_some_iff] at hv
  obtain ⟨a, ha, rfl⟩ := hv
  simp [h1 S0 σ S s a ha, atI, ixN]
/-! targets -/
theorem Tg.n (i : Nat) : Tg (gN i) e (fun L a => L.set i (.w (.d (e a)))) := fun S0 L σ S s a => ⟨_, rfl, s.setW i _⟩
theorem Tg.p2 (i j : Nat) : Tg (gTup 2 (gCons (gN i) (gCons (gN j) gNil))) (eP e f) (fun L a => (L.set i (.w (.d (e a.1)))).set j (.w (.d (f a.2)))) := fun S0 L σ S s a => ⟨_, by simp, (s.setW i _).setW j _⟩
theorem Tg.p3 (i j k : Nat) : Tg (gTup 3 (gCons (gN i) (gCons (gN j) (gCons (gN k) gNil)))) (eP3 e f h) (fun L a => ((L.set i (.w (.d (e a.1)))).set j (.w (.d (f a.2.1)))).set k (.w (.d (h a.2.2)))) := fun S0 L σ S s a => ⟨_, by simp, ((s.setW i _).setW j _).setW k _⟩
/-- a pair whose second is a pair -/
theorem Tg.p12 (i j k : Nat) : Tg (gTup 2 (gCons (gN i) (gCons (gTup 2 (gCons (gN j) (gCons (gN k) gNil))) gNil))) (eP e (eP f h)) (fun L a => ((L.set i (.w (.d (e a.1)))).set j (.w (.d (f a.2.1)))).set k (.w (.d (h a.2.2)))) := fun S0 L σ S s a => ⟨_, by simp, ((s.setW i _).setW j _).setW k _⟩
/-! what is walked -/
theorem rangeD_I : ∀ (n : Nat) (lo : Int), rangeD lo n = (pRange.rangeI lo n).map eI
  | 0, lo => rfl
  | n + 1, lo => by simp [rangeD, pRange.rangeI, rangeD_I n (lo + 1)]
theorem pRange_some {lo hi : Int} {xs : List Int} (hv : pRange lo hi = some xs) : big62 lo = true ∧ big62 hi = true ∧ xs = pRange.rangeI lo (hi - lo).toNat := by
  unfold pRange at hv
  split at hv
  · rename_i q
    have q := of_decide_eq_true q
    cases hv
    exact ⟨big62_of q.1 q.2.1, big62_of q.2.2.1 q.2.2.2, rfl⟩
  · cases hv
theorem It.r1 {m : ME} {p : Option Int} (h1 : Ev L m eI p) : It L (iR1 (mCons m mNil)) eI (pB1 (pRange 0) p) := fun S0 σ S s v hv => by
  obtain ⟨a, ha, hv⟩ := bs hv
  obtain ⟨_, q, rfl⟩ := pRange_some hv
  simp [h1 S0 σ S s a ha, q, rangeD_I]
theorem It.r2 {m1 m2 : ME} {p1 p2 : Option Int} (h1 : Ev L m1 eI p1) (h2 : Ev L m2 eI p2) : It L (iR2 (mCons m1 (mCons m2 mNil))) eI (pB2 pRange p1 p2) := fun S0 σ S s v hv => by
  obtain ⟨a, ha, hv⟩ := bs hv
  obtain ⟨b, hb, hv⟩ := bs hv
  obtain ⟨q1, q2, rfl⟩ := pRange_some hv
  simp [h1 S0 σ S s a ha, h2 S0 σ S s b hb, q1, q2, rangeD_I]
theorem It.l {m : ME} {p : Option (List α)} (h1 : Ev L m (eL e) p) : It L (iL m) e p := fun S0 σ S s v hv => by simp [h1 S0 σ S s v hv]
theorem It.t {m : ME} {p : Option (List α)} (h1 : Ev L m (eV e) p) : It L (iT m) e p := fun S0 σ S s v hv => by simp [h1 S0 σ S s v hv]
theorem It.sl {m : ME} {p : Option (List α)} (h1 : Ev L m (eL e) p) : It L (iS m) e p := fun S0 σ S s v hv => by simp [h1 S0 σ S s v hv, asS]
theorem It.st {m : ME} {p : Option (List α)} (h1 : Ev L m (eV e) p) : It L (iS m) e p := fun S0 σ S s v hv => by simp [h1 S0 σ S s v hv, asS]
theorem enumD_map (e : Enc α) : ∀ (xs : List α) (lo : Nat), enumD lo (xs.map e) = (enumI (lo : Int) xs).map (eP eI e)
  | [], lo => rfl
  | x :: xs, lo => by
    have := enumD_map e xs (lo + 1)
    simp only [List.map_cons, enumD, enumI, this]
    simp
theorem It.enum {m : ME} {p : Option (List α)} (h1 : Ev L m (eL e) p) : It L (iEnumD (mCons m mNil)) (eP eI e) (p.map (enumI 0)) := fun S0 σ S s v hv => by
  rw [Option.map_eq_some_iff] at hv
  obtain ⟨a, ha, rfl⟩ := hv
  have := enumD_map e a 0
  simp [iEnumD, h1 S0 σ S s a ha, this]
theorem It.zipL {m1 m2 : ME} {p1 : Option (List α)} {p2 : Option (List β)} (h1 : Ev L m1 (eL e) p1) (h2 : Ev L m2 (eL f) p2) : It L (iZipD (mCons m1 (mCons m2 mNil))) (eP e f) (pB2 (fun a b => some (a.zip b)) p1 p2) := fun S0 σ S s v hv => by
  obtain ⟨a, ha, hv⟩ := bs hv
  obtain ⟨b, hb, hv⟩ := bs hv
  cases hv
  simp [iZipD, h1 S0 σ S s a ha, h2 S0 σ S s b hb, zipD_map]
theorem It.zipV {m1 m2 : ME} {p1 : Option (List α)} {p2 : Option (List β)} (h1 : Ev L m1 (eV e) p1) (h2 : Ev L m2 (eV f) p2) : It L (iZipD (mCons m1 (mCons m2 mNil))) (eP e f) (pB2 (fun a b => some (a.zip b)) p1 p2) := fun S0 σ S s v hv => by
  obtain ⟨a, ha, hv⟩ := bs hv
  obtain ⟨b, hb, hv⟩ := bs hv
  cases hv
  simp [iZipD, h1 S0 σ S s a ha, h2 S0 σ S s b hb, zipD_map]
/-! comprehensions -/
theorem pComp_len {t : α → Option Bool} {m : α → Option β} : ∀ {xs : List α} {ys : List β}, pComp t m xs = some ys → ys.length ≤ xs.length
  | [], ys, hv => by cases hv; simp
  | x :: xs, ys, hv => by
    obtain ⟨c, _, hv⟩ := bs hv
    cases c with
    | true =>
      obtain ⟨y, _, hv⟩ := bs (by simpa using hv)
      rw [Option.map_eq_some_iff] at hv
      obtain ⟨zs, h1, rfl⟩ := hv
      have := pComp_len h1
      simp; omega
    | false =>
      have := pComp_len (t := t) (m := m) (xs := xs) (ys := ys) (by simpa using hv)
      simp; omega
theorem comp_go {S0 : Sto} {g : MG} {t : MT} {m : ME} {bnd : List Sl → α → List Sl} {pt : α → Option Bool} {pm : α → Option β} {L' : List Sl} (hg : Tg g e bnd) (ht : ∀ a, Te (bnd L' a) t (pt a)) (hm : ∀ a, Ev (bnd L' a) m f (pm a)) {σ : Env} {S : Sto} (s : Sat S0 L' σ S) :
    ∀ (xs : List α) (ys : List β) (acc : List D), pComp pt pm xs = some ys → acc.length + xs.length ≤ 16777216 → compM g t m (xs.map e) σ S acc = some (acc ++ ys.map f, S)
  | [], ys, acc, hv, hl => by cases hv; simp
  | x :: xs, ys, acc, hv, hl => by
    obtain ⟨σ1, g1, g2⟩ := hg S0 L' σ S s x
    obtain ⟨c, hc, hv⟩ := bs hv
    simp only [List.length_cons] at hl
    have t1 := ht x S0 σ1 S g2 c hc
    cases c with
    | true =>
      obtain ⟨y, hy, hv⟩ := bs (by simpa using hv)
      rw [Option.map_eq_some_iff] at hv
      obtain ⟨zs, h1, rfl⟩ := hv
      have m1 := hm x S0 σ1 S g2 y hy
      have hf : fits (acc.length + 1) = true := decide_eq_true (by omega)
      have ih := comp_go hg ht hm s xs zs (acc ++ [f y]) h1 (by simp; omega)
      simp [g1, t1, m1, hf, ih]
    | false =>
      have ih := comp_go hg ht hm s xs ys acc (by simpa using hv) (by omega)
      simp [g1, t1, ih]
theorem Ev.comp {mi : MI} {g : MG} {t : MT} {m : ME} {vs : List Nat} {bnd : List Sl → α → List Sl} {p : Option (List α)} {pt : α → Option Bool} {pm : α → Option β} (hi : It L mi e p) (hg : Tg g e bnd) (ht : ∀ a, Te (bnd (wipeL L vs) a) t (pt a)) (hm : ∀ a, Ev (bnd (wipeL L vs) a) m f (pm a)) :
    Ev L (mComp mi g t m vs) (eL f) (p.bind fun xs => (pFit xs).bind fun xs => pComp pt pm xs) := fun S0 σ S s v hv => by
  obtain ⟨a, ha, hv⟩ := bs hv
  obtain ⟨a', ha', hv2⟩ := bs (show (pFit a).bind (pComp pt pm) = some v from hv)
  clear hv
  obtain ⟨rfl, _, hl⟩ := pFit_some ha'
  have := comp_go hg ht hm (s.wipe vs) a' v [] hv2 (by simpa using hl)
  simp [hi S0 σ S s a' ha, this]
end
end DL

set_option Elab.async false
set_option linter.all false
set_option maxRecDepth 100000
set_option autoImplicit false
/-! The typed layer: statements, defs. -/
noncomputable section
namespace DL
open PySem PySem.Spec PyProof.Rows L2
section
variable {α β γ δ ρ : Type} {L : List Sl} {e : Enc α} {f : Enc β} {h : Enc γ} {o : Enc δ} {er : Enc ρ}
/-! ### what is given to a name -/
theorem Ev.s {m : ME} {p : Option α} (h1 : Ev L m e p) : EvS L m p (fun a => .w (.d (e a))) := fun S0 σ S s v hv => .inl ⟨_, rfl, h1 S0 σ S s v hv⟩
theorem EvS.new {m : MA} {p : Option (List α)} (h1 : EvL L m e p) : EvS L (mNew m) (pB1 pFit p) (fun a => .m (.lst (a.map e))) := fun S0 σ S s v hv => by
  obtain ⟨a, ha, hv2⟩ := bs hv
  clear hv
  obtain ⟨rfl, hf, _⟩ := pFit_some hv2
  exact .inr ⟨_, rfl, by simp [h1 S0 σ S s _ ha, asDs_map, hf]⟩
theorem EvS.newK : EvS L mNewK (some ()) (fun _ => .m (.dK [])) := fun S0 σ S s v hv => .inr ⟨_, rfl, rfl⟩
theorem EvS.newT : EvS L mNewT (some ()) (fun _ => .m (.dT [])) := fun S0 σ S s v hv => .inr ⟨_, rfl, rfl⟩
theorem EvS.listL {m : ME} {p : Option (List α)} (h1 : Ev L m (eL e) p) : EvS L (mCall gListN (mCons m mNil)) p (fun a => .m (.lst (a.map e))) := fun S0 σ S s v hv => .inr ⟨_, rfl, by simp [h1 S0 σ S s v hv, gListN]⟩
theorem EvS.listV {m : ME} {p : Option (List α)} (h1 : Ev L m (eV e) p) : EvS L (mCall gListN (mCons m mNil)) p (fun a => .m (.lst (a.map e))) := fun S0 σ S s v hv => .inr ⟨_, rfl, by simp [h1 S0 σ S s v hv, gListN]⟩
theorem Sat.locs {S0 : Sto} {σ : Env} {S : Sto} (s : Sat S0 L σ S) {j : Nat} {n : Nat} (hj : σ[j]? = some (some (.loc n))) (hn : S.length ≤ n) (o' : O) : L[j]? ≠ some (.m o') := fun q => by
  obtain ⟨g, g1, _⟩ := s.m
  obtain ⟨a, _, c⟩ := g1 j o' q
  rw [a] at hj
  cases hj
  have := (List.getElem?_eq_some_iff.mp c).1
  omega
theorem StN.asg (i : Nat) {m : ME} {p : Option α} {sl : α → Sl} (h1 : EvS L m p sl) : StN L (mAsg i m) p (fun a => L.set i (sl a)) := fun S0 σ S s a ha => by
  rcases h1 S0 σ S s a ha with ⟨x, h2, h3⟩ | ⟨x, h2, h3⟩
  · refine ⟨σ.set i (some x), S, by simp [h3], ?_⟩
    show Sat S0 (L.set i (sl a)) _ _
    rw [h2]; exact s.setW i x
  · refine ⟨σ.set i (some (.loc S.length)), S ++ [x], by simp [h3], ?_⟩
    show Sat S0 (L.set i (sl a)) _ _
    rw [h2]
    exact (s.push x).setM i S.length x (by simp) s.le fun j hj o' => s.locs hj (Nat.le_refl _) o'
theorem StN.par2 (i j : Nat) {m1 m2 : ME} {p1 : Option α} {p2 : Option β} {s1 : α → Sl} {s2 : β → Sl} (h1 : EvS L m1 p1 s1) (h2 : EvS L m2 p2 s2) : StN L (mPar2 i j (mCons m1 (mCons m2 mNil))) (pB2 (fun a b => some (a, b)) p1 p2) (fun r => (L.set i (s1 r.1)).set j (s2 r.2)) := fun S0 σ S s r hr => by
  obtain ⟨a, ha, hr⟩ := bs hr
  obtain ⟨b, hb, hr⟩ := bs hr
  cases hr
  show ∃ σ' S', _ ∧ Sat S0 ((L.set i (s1 a)).set j (s2 b)) σ' S'
  rcases h1 S0 σ S s a ha with ⟨x, g1, g2⟩ | ⟨x, g1, g2⟩
  · rcases h2 S0 σ S s b hb with ⟨y, k1, k2⟩ | ⟨y, k1, k2⟩
    · refine ⟨(σ.set i (some x)).set j (some y), S, by simp [g2, k2], ?_⟩
      rw [g1, k1]; exact (s.setW i x).setW j y
    · refine ⟨(σ.set i (some x)).set j (some (.loc S.length)), S ++ [y], by simp [g2, k2], ?_⟩
      rw [g1, k1]
      refine ((s.push y).setW i x).setM j S.length y (by simp) s.le fun k hk o' q => ?_
      rcases set_at q with ⟨rfl, _, q⟩ | ⟨hne, q⟩
      · cases q
      · rw [List.getElem?_set_ne hne] at hk
        exact s.locs hk (Nat.le_refl _) o' q
  · have s' := (s.push x).setM i S.length x (by simp) s.le fun j hj o' => s.locs hj (Nat.le_refl _) o'
    rcases h2 S0 σ (S ++ [x]) (s.push x) b hb with ⟨y, k1, k2⟩ | ⟨y, k1, k2⟩
    · refine ⟨(σ.set i (some (.loc S.length))).set j (some y), S ++ [x], by simp [g2, k2], ?_⟩
      rw [g1, k1]; exact s'.setW j y
    · refine ⟨(σ.set i (some (.loc S.length))).set j (some (.loc (S ++ [x]).length)), S ++ [x] ++ [y], by simp [g2, k2], ?_⟩
      rw [g1, k1]
      refine (s'.push y).setM j (S ++ [x]).length y (by simp) (s.push x).le fun k hk o' q => ?_
      exact s'.locs hk (Nat.le_refl _) o' q
theorem StN.par3 (i j k : Nat) {m1 m2 m3 : ME} {p1 : Option α} {p2 : Option β} {p3 : Option γ} (h1 : Ev L m1 e p1) (h2 : Ev L m2 f p2) (h3 : Ev L m3 h p3) : StN L (mPar3 i j k (mCons m1 (mCons m2 (mCons m3 mNil)))) (pB3 (fun a b c => some (a, b, c)) p1 p2 p3) (fun r => ((L.set i (.w (.d (e r.1)))).set j (.w (.d (f r.2.1)))).set k (.w (.d (h r.2.2)))) := fun S0 σ S s r hr => by
  obtain ⟨a, ha, hr⟩ := bs hr
  obtain ⟨b, hb, hr⟩ := bs hr
  obtain ⟨c, hc, hr⟩ := bs hr
  cases hr
  exact ⟨_, S, by simp [h1 S0 σ S s a ha, h2 S0 σ S s b hb, h3 S0 σ S s c hc], ((s.setW i _).setW j _).setW k _⟩
/-- x, y = a tuple -/
theorem StN.unp {g : MG} {m : ME} {p : Option α} {bnd : List Sl → α → List Sl} (h1 : Ev L m e p) (hg : Tg g e bnd) : StN L (mAsgG g m) p (fun a => bnd L a) := fun S0 σ S s a ha => by
  obtain ⟨σ1, g1, g2⟩ := hg S0 L σ S s a
  exact ⟨σ1, S, by simp [h1 S0 σ S s a ha, g1], g2⟩
theorem StN.skip : StN L mSkip (some ()) (fun _ => L) := fun S0 σ S s a ha => ⟨σ, S, rfl, s⟩
theorem StN.expr {m : ME} {p : Option α} (h1 : Ev L m e p) : StN L (mExpr m) p (fun _ => L) := fun S0 σ S s a ha => ⟨σ, S, by simp [h1 S0 σ S s a ha], s⟩
theorem StN.raise {L1 : α → List Sl} : StN L (fun _ _ => none) none L1 := fun S0 σ S s a ha => by cases ha
theorem StF.raise : StF L (fun _ _ => none) er none := fun S0 σ S s a ha => by cases ha
/-- behind: less said, in other words -/
theorem StN.to {m : MS} {p : Option α} {L1 : α → List Sl} {L2 : β → List Sl} (h1 : StN L m p L1) (g : α → β) (hl : ∀ a, Le (L1 a) (L2 (g a))) : StN L m (p.map g) L2 := fun S0 σ S s b hb => by
  rw [Option.map_eq_some_iff] at hb
  obtain ⟨a, ha, rfl⟩ := hb
  obtain ⟨σ', S', h2, h3⟩ := h1 S0 σ S s a ha
  exact ⟨σ', S', h2, h3.weak (hl a)⟩
theorem StN.seq {m1 m2 : MS} {p1 : Option α} {p2 : α → Option β} {L1 : α → List Sl} {L2 : β → List Sl} (h1 : StN L m1 p1 L1) (h2 : ∀ a, StN (L1 a) m2 (p2 a) L2) : StN L (mSeq m1 m2) (p1.bind p2) L2 := fun S0 σ S s b hb => by
  obtain ⟨a, ha, hb⟩ := bs hb
  obtain ⟨σ', S', h3, h4⟩ := h1 S0 σ S s a ha
  obtain ⟨σ2, S2, h5, h6⟩ := h2 a S0 σ' S' h4 b hb
  exact ⟨σ2, S2, by simp [h3, h5], h6⟩
theorem StN.ite {t : MT} {m1 m2 : MS} {pt : Option Bool} {p1 p2 : Option α} {L1 : α → List Sl} (ht : Te L t pt) (h1 : StN L m1 p1 L1) (h2 : StN L m2 p2 L1) : StN L (mIfS t m1 m2) (pIf pt p1 p2) L1 := fun S0 σ S s a ha => by
  obtain ⟨k, hk, ha⟩ := bs ha
  cases k with
  | true =>
    obtain ⟨σ', S', h3, h4⟩ := h1 S0 σ S s a (by simpa using ha)
    exact ⟨σ', S', by simp [ht S0 σ S s true hk, h3], h4⟩
  | false =>
    obtain ⟨σ', S', h3, h4⟩ := h2 S0 σ S s a (by simpa using ha)
    exact ⟨σ', S', by simp [ht S0 σ S s false hk, h3], h4⟩
/-! ### returns -/
theorem StF.ret {m : ME} {p : Option ρ} (h1 : Ev L m er p) : StF L (mRet m) er p := fun S0 σ S s r hr => ⟨S, by simp [h1 S0 σ S s r hr], s.base⟩
theorem StF.seqN {m1 m2 : MS} {p1 : Option α} {p2 : α → Option ρ} {L1 : α → List Sl} (h1 : StN L m1 p1 L1) (h2 : ∀ a, StF (L1 a) m2 er (p2 a)) : StF L (mSeq m1 m2) er (p1.bind p2) := fun S0 σ S s r hr => by
  obtain ⟨a, ha, hr⟩ := bs hr
  obtain ⟨σ', S', h3, h4⟩ := h1 S0 σ S s a ha
  obtain ⟨S2, h5, h6⟩ := h2 a S0 σ' S' h4 r hr
  exact ⟨S2, by simp [h3, h5], h6⟩
theorem StF.seqR {m1 m2 : MS} {p1 : Option (α ⊕ ρ)} {p2 : α → Option ρ} {L1 : α → List Sl} (h1 : StR L m1 er p1 L1) (h2 : ∀ a, StF (L1 a) m2 er (p2 a)) : StF L (mSeq m1 m2) er (pSeqF p1 p2) := fun S0 σ S s r hr => by
  obtain ⟨a, ha, hr⟩ := bs hr
  obtain ⟨g1, g2⟩ := h1 S0 σ S s
  cases a with
  | inl a =>
    obtain ⟨σ', S', h3, h4⟩ := g1 a ha
    obtain ⟨S2, h5, h6⟩ := h2 a S0 σ' S' h4 r hr
    exact ⟨S2, by simp [h3, h5], h6⟩
  | inr r' =>
    have hr : some r' = some r := hr
    rw [Option.some.injEq] at hr
    subst hr
    obtain ⟨S', h3, h4⟩ := g2 _ ha
    exact ⟨S', by simp [h3], h4⟩
theorem StF.ite {t : MT} {m1 m2 : MS} {pt : Option Bool} {p1 p2 : Option ρ} (ht : Te L t pt) (h1 : StF L m1 er p1) (h2 : StF L m2 er p2) : StF L (mIfS t m1 m2) er (pIf pt p1 p2) := fun S0 σ S s a ha => by
  obtain ⟨k, hk, ha⟩ := bs ha
  cases k with
  | true =>
    obtain ⟨S', h3, h4⟩ := h1 S0 σ S s a (by simpa using ha)
    exact ⟨S', by simp [ht S0 σ S s true hk, h3], h4⟩
  | false =>
    obtain ⟨S', h3, h4⟩ := h2 S0 σ S s a (by simpa using ha)
    exact ⟨S', by simp [ht S0 σ S s false hk, h3], h4⟩
/-- if c: .. return; the rest -/
theorem StF.guard {t : MT} {m1 m2 : MS} {pt : Option Bool} {p1 p2 : Option ρ} (ht : Te L t pt) (h1 : StF L m1 er p1) (h2 : StF L m2 er p2) : StF L (mSeq (mIfS t m1 mSkip) m2) er (pIf pt p1 p2) := fun S0 σ S s a ha => by
  obtain ⟨k, hk, ha⟩ := bs ha
  cases k with
  | true =>
    obtain ⟨S', h3, h4⟩ := h1 S0 σ S s a (by simpa using ha)
    exact ⟨S', by simp [ht S0 σ S s true hk, h3], h4⟩
  | false =>
    obtain ⟨S', h3, h4⟩ := h2 S0 σ S s a (by simpa using ha)
    exact ⟨S', by simp [ht S0 σ S s false hk, h3], h4⟩
theorem StR.ofF {m : MS} {p : Option ρ} {L1 : α → List Sl} (h1 : StF L m er p) : StR L m er (p.map Sum.inr) L1 := fun S0 σ S s => by
  refine ⟨fun a ha => ?_, fun r hr => ?_⟩
  · rw [Option.map_eq_some_iff] at ha
    obtain ⟨_, _, z⟩ := ha
    cases z
  · rw [Option.map_eq_some_iff] at hr
    obtain ⟨r', h2, z⟩ := hr
    cases z
    exact h1 S0 σ S s r h2
theorem StR.ofN {m : MS} {p : Option α} {L1 : α → List Sl} (h1 : StN L m p L1) : StR L m er (p.map Sum.inl) L1 := fun S0 σ S s => by
  refine ⟨fun a ha => ?_, fun r hr => ?_⟩
  · rw [Option.map_eq_some_iff] at ha
    obtain ⟨a', h2, z⟩ := ha
    cases z
    exact h1 S0 σ S s a h2
  · rw [Option.map_eq_some_iff] at hr
    obtain ⟨_, _, z⟩ := hr
    cases z
theorem StR.ite {t : MT} {m1 m2 : MS} {pt : Option Bool} {p1 p2 : Option (α ⊕ ρ)} {L1 : α → List Sl} (ht : Te L t pt) (h1 : StR L m1 er p1 L1) (h2 : StR L m2 er p2 L1) : StR L (mIfS t m1 m2) er (pIf pt p1 p2) L1 := fun S0 σ S s => by
  refine ⟨fun a ha => ?_, fun a ha => ?_⟩ <;> obtain ⟨k, hk, ha⟩ := bs ha <;> cases k
  · obtain ⟨σ', S', h3, h4⟩ := (h2 S0 σ S s).1 a (by simpa using ha)
    exact ⟨σ', S', by simp [ht S0 σ S s false hk, h3], h4⟩
  · obtain ⟨σ', S', h3, h4⟩ := (h1 S0 σ S s).1 a (by simpa using ha)
    exact ⟨σ', S', by simp [ht S0 σ S s true hk, h3], h4⟩
  · obtain ⟨S', h3, h4⟩ := (h2 S0 σ S s).2 a (by simpa using ha)
    exact ⟨S', by simp [ht S0 σ S s false hk, h3], h4⟩
  · obtain ⟨S', h3, h4⟩ := (h1 S0 σ S s).2 a (by simpa using ha)
    exact ⟨S', by simp [ht S0 σ S s true hk, h3], h4⟩
theorem StR.guard {t : MT} {m1 m2 : MS} {pt : Option Bool} {p1 : Option ρ} {p2 : Option (α ⊕ ρ)} {L1 : α → List Sl} (ht : Te L t pt) (h1 : StF L m1 er p1) (h2 : StR L m2 er p2 L1) : StR L (mSeq (mIfS t m1 mSkip) m2) er (pIf pt (p1.map Sum.inr) p2) L1 := fun S0 σ S s => by
  refine ⟨fun a ha => ?_, fun a ha => ?_⟩ <;> obtain ⟨k, hk, ha⟩ := bs ha <;> cases k
  · obtain ⟨σ', S', h3, h4⟩ := (h2 S0 σ S s).1 a (by simpa using ha)
    exact ⟨σ', S', by simp [ht S0 σ S s false hk, h3], h4⟩
  · simp at ha
  · obtain ⟨S', h3, h4⟩ := (h2 S0 σ S s).2 a (by simpa using ha)
    exact ⟨S', by simp [ht S0 σ S s false hk, h3], h4⟩
  · simp at ha
    obtain ⟨S', h3, h4⟩ := h1 S0 σ S s a ha
    exact ⟨S', by simp [ht S0 σ S s true hk, h3], h4⟩
theorem StR.seqN {m1 m2 : MS} {p1 : Option α} {p2 : α → Option (β ⊕ ρ)} {L1 : α → List Sl} {L2 : β → List Sl} (h1 : StN L m1 p1 L1) (h2 : ∀ a, StR (L1 a) m2 er (p2 a) L2) : StR L (mSeq m1 m2) er (p1.bind p2) L2 := fun S0 σ S s => by
  refine ⟨fun b hb => ?_, fun b hb => ?_⟩ <;> obtain ⟨a, ha, hb⟩ := bs hb <;> obtain ⟨σ', S', h3, h4⟩ := h1 S0 σ S s a ha
  · obtain ⟨σ2, S2, h5, h6⟩ := (h2 a S0 σ' S' h4).1 b hb
    exact ⟨σ2, S2, by simp [h3, h5], h6⟩
  · obtain ⟨S2, h5, h6⟩ := (h2 a S0 σ' S' h4).2 b hb
    exact ⟨S2, by simp [h3, h5], h6⟩
theorem StR.seqR {m1 m2 : MS} {p1 : Option (α ⊕ ρ)} {p2 : α → Option (β ⊕ ρ)} {L1 : α → List Sl} {L2 : β → List Sl} (h1 : StR L m1 er p1 L1) (h2 : ∀ a, StR (L1 a) m2 er (p2 a) L2) : StR L (mSeq m1 m2) er (pSeqR p1 p2) L2 := fun S0 σ S s => by
  obtain ⟨g1, g2⟩ := h1 S0 σ S s
  refine ⟨fun b hb => ?_, fun b hb => ?_⟩ <;> obtain ⟨a, ha, hb⟩ := bs hb <;> cases a
  · obtain ⟨σ', S', h3, h4⟩ := g1 _ ha
    obtain ⟨σ2, S2, h5, h6⟩ := (h2 _ S0 σ' S' h4).1 b hb
    exact ⟨σ2, S2, by simp [h3, h5], h6⟩
  · cases hb
  · obtain ⟨σ', S', h3, h4⟩ := g1 _ ha
    obtain ⟨S2, h5, h6⟩ := (h2 _ S0 σ' S' h4).2 b hb
    exact ⟨S2, by simp [h3, h5], h6⟩
  · cases hb
    obtain ⟨S', h3, h4⟩ := g2 _ ha
    exact ⟨S', by simp [h3], h4⟩
/-! ### loops -/
theorem for_go {S0 : Sto} {g : MG} {b : MS} {bnd : List Sl → β → List Sl} {LB : α → List Sl} {pb : α → β → Option α} (hg : Tg g f bnd) (hb : ∀ a x, StN (bnd (LB a) x) b (pb a x) LB) : ∀ (xs : List β) (a a' : α) (σ : Env) (S : Sto), Sat S0 (LB a) σ S → pFor pb xs a = some a' →
    ∃ σ' S', forM g b (xs.map f) σ S = some (.nx σ' S') ∧ Sat S0 (LB a') σ' S'
  | [], a, a', σ, S, s, hv => by cases hv; exact ⟨σ, S, rfl, s⟩
  | x :: xs, a, a', σ, S, s, hv => by
    obtain ⟨a1, h1, hv⟩ := bs hv
    obtain ⟨σ1, g1, g2⟩ := hg S0 (LB a) σ S s x
    obtain ⟨σ2, S2, h3, h4⟩ := hb a x S0 σ1 S g2 a1 h1
    obtain ⟨σ', S', h5, h6⟩ := for_go hg hb xs a1 a' σ2 S2 h4 hv
    exact ⟨σ', S', by simp [g1, h3, h5], h6⟩
theorem StN.for {mi : MI} {g : MG} {b : MS} {bnd : List Sl → β → List Sl} (LB : α → List Sl) (a0 : α) {p : Option (List β)} {pb : α → β → Option α} (hi : It L mi f p) (hl : Le L (LB a0)) (hg : Tg g f bnd) (hb : ∀ a x, StN (bnd (LB a) x) b (pb a x) LB) :
    StN L (mFor mi g b) (p.bind fun xs => pFor pb xs a0) LB := fun S0 σ S s a' hv => by
  obtain ⟨xs, h1, hv⟩ := bs hv
  obtain ⟨σ', S', h2, h3⟩ := for_go hg hb xs a0 a' σ S (s.weak hl) hv
  exact ⟨σ', S', by simp [hi S0 σ S s xs h1, h2], h3⟩
theorem forR_go {S0 : Sto} {g : MG} {b : MS} {bnd : List Sl → β → List Sl} {LB : α → List Sl} {pb : α → β → Option (α ⊕ ρ)} (hg : Tg g f bnd) (hb : ∀ a x, StR (bnd (LB a) x) b er (pb a x) LB) : ∀ (xs : List β) (a : α) (σ : Env) (S : Sto), Sat S0 (LB a) σ S →
    (∀ a', pForR pb xs a = some (.inl a') → ∃ σ' S', forM g b (xs.map f) σ S = some (.nx σ' S') ∧ Sat S0 (LB a') σ' S') ∧ ∀ r, pForR pb xs a = some (.inr r) → ∃ S', forM g b (xs.map f) σ S = some (.rt (.d (er r)) S') ∧ S'.take S0.length = S0
  | [], a, σ, S, s => ⟨fun a' hv => by cases hv; exact ⟨σ, S, rfl, s⟩, fun r hv => by cases hv⟩
  | x :: xs, a, σ, S, s => by
    obtain ⟨σ1, g1, g2⟩ := hg S0 (LB a) σ S s x
    obtain ⟨k1, k2⟩ := hb a x S0 σ1 S g2
    refine ⟨fun a' hv => ?_, fun r hv => ?_⟩ <;> obtain ⟨c, h1, hv⟩ := bs hv <;> cases c
    · obtain ⟨σ2, S2, h3, h4⟩ := k1 _ h1
      obtain ⟨σ', S', h5, h6⟩ := (forR_go hg hb xs _ σ2 S2 h4).1 a' hv
      exact ⟨σ', S', by simp [g1, h3, h5], h6⟩
    · cases hv
    · obtain ⟨σ2, S2, h3, h4⟩ := k1 _ h1
      obtain ⟨S', h5, h6⟩ := (forR_go hg hb xs _ σ2 S2 h4).2 r hv
      exact ⟨S', by simp [g1, h3, h5], h6⟩
    · cases hv
      obtain ⟨S2, h3, h4⟩ := k2 _ h1
      exact ⟨S2, by simp [g1, h3], h4⟩
theorem StR.for {mi : MI} {g : MG} {b : MS} {bnd : List Sl → β → List Sl} (LB : α → List Sl) (a0 : α) {p : Option (List β)} {pb : α → β → Option (α ⊕ ρ)} (hi : It L mi f p) (hl : Le L (LB a0)) (hg : Tg g f bnd) (hb : ∀ a x, StR (bnd (LB a) x) b er (pb a x) LB) :
    StR L (mFor mi g b) er (p.bind fun xs => pForR pb xs a0) LB := fun S0 σ S s => by
  refine ⟨fun a' hv => ?_, fun r hv => ?_⟩ <;> obtain ⟨xs, h1, hv⟩ := bs hv
  · obtain ⟨σ', S', h2, h3⟩ := (forR_go hg hb xs a0 σ S (s.weak hl)).1 a' hv
    exact ⟨σ', S', by simp [hi S0 σ S s xs h1, h2], h3⟩
  · obtain ⟨S', h2, h3⟩ := (forR_go hg hb xs a0 σ S (s.weak hl)).2 r hv
    exact ⟨S', by simp [hi S0 σ S s xs h1, h2], h3⟩
theorem while_go {S0 : Sto} {c : MT} {b : MS} {LB : α → List Sl} {pc : α → Option Bool} {pb : α → Option α} (hc : ∀ a, Te (LB a) c (pc a)) (hb : ∀ a, StN (LB a) b (pb a) LB) : ∀ (n : Nat) (a a' : α) (σ : Env) (S : Sto), Sat S0 (LB a) σ S → pWhile pc pb n a = some a' →
    ∃ σ' S', whileM c b n σ S = some (.nx σ' S') ∧ Sat S0 (LB a') σ' S'
  | 0, a, a', σ, S, s, hv => by cases hv
  | n + 1, a, a', σ, S, s, hv => by
    obtain ⟨k, hk, hv⟩ := bs hv
    have c1 := hc a S0 σ S s k hk
    cases k with
    | true =>
      obtain ⟨a1, h1, hv⟩ := bs (by simpa using hv)
      obtain ⟨σ2, S2, h3, h4⟩ := hb a S0 σ S s a1 h1
      obtain ⟨σ', S', h5, h6⟩ := while_go hc hb n a1 a' σ2 S2 h4 hv
      exact ⟨σ', S', by simp [whileM, c1, h3, h5], h6⟩
    | false =>
      have : a = a' := by simpa using hv
      subst this
      exact ⟨σ, S, by simp [whileM, c1], s⟩
theorem StN.while {c : MT} {b : MS} (n : Nat) (LB : α → List Sl) (a0 : α) {pc : α → Option Bool} {pb : α → Option α} (hl : Le L (LB a0)) (hc : ∀ a, Te (LB a) c (pc a)) (hb : ∀ a, StN (LB a) b (pb a) LB) : StN L (whileM c b n) (pWhile pc pb n a0) LB := fun S0 σ S s a' hv =>
  while_go hc hb n a0 a' σ S (s.weak hl) hv
/-! ### own objects -/
theorem StN.frz (i : Nat) {ds : List D} (hL : L[i]? = some (.m (.lst ds)) := by rfl) : StN L (mFrzV i) (some ()) (fun _ => L.set i (.w (.d (.list ds)))) := fun S0 σ S s a ha => by
  obtain ⟨n, h1, h2, h3⟩ := s.kill hL
  exact ⟨σ.set i (some (.d (.list ds))), S.set n .dead, by simp [mFrzV, h1, DL.frz, h2], h3 .dead _⟩
theorem StN.frz0 (i : Nat) {d : D} (hL : L[i]? = some (.w (.d d)) := by rfl) : StN L (mFrzV i) (some ()) (fun _ => L.set i (.w (.d d))) := fun S0 σ S s a ha => ⟨σ.set i (some (.d d)), S, by simp [mFrzV, s.w i _ hL, DL.frz], s.setW i _⟩
theorem StN.app (i : Nat) {xs : List α} {m : ME} {p : Option α} (h1 : Ev L m e p) (hL : L[i]? = some (.m (.lst (xs.map e))) := by rfl) : StN L (mExpr (mMeth isLoc gAppend (mVar i) (mCons m mNil))) (p.bind fun a => pFit (xs ++ [a])) (fun ys => L.set i (.m (.lst (ys.map e)))) := fun S0 σ S s ys hy => by
  obtain ⟨a, ha, hy2⟩ := bs hy
  clear hy
  obtain ⟨rfl, hf, _⟩ := pFit_some hy2
  obtain ⟨n, h2, h3, h4⟩ := s.write hL
  have hf' : fits (xs.length + 1) = true := by simpa using hf
  refine ⟨σ, S.set n (.lst ((xs ++ [a]).map e)), ?_, h4 _⟩
  simp [h2, isLoc, h3, h1 S0 σ S s a ha, gAppend, hf']
theorem StN.ext (i : Nat) {xs : List α} {m : ME} {p : Option (List α)} (h1 : Ev L m (eL e) p) (hL : L[i]? = some (.m (.lst (xs.map e))) := by rfl) : StN L (mExpr (mMeth isLoc gExtend (mVar i) (mCons m mNil))) (p.bind fun a => pFit (xs ++ a)) (fun ys => L.set i (.m (.lst (ys.map e)))) := fun S0 σ S s ys hy => by
  obtain ⟨a, ha, hy2⟩ := bs hy
  clear hy
  obtain ⟨rfl, hf, _⟩ := pFit_some hy2
  obtain ⟨n, h2, h3, h4⟩ := s.write hL
  have hf' : fits (xs.length + a.length) = true := by simpa using hf
  refine ⟨σ, S.set n (.lst ((xs ++ a).map e)), ?_, h4 _⟩
  simp [h2, isLoc, h3, h1 S0 σ S s a ha, gExtend, hf']
/-- reading an own list -/
theorem Ev.lenM (i : Nat) {ds : List D} (hL : L[i]? = some (.m (.lst ds)) := by rfl) : Ev L (mCall (pure1 vLen) (mCons (mVar i) mNil)) eI (some (ds.length : Int)) := fun S0 σ S s v hv => by
  cases hv
  obtain ⟨n, h2, h3, _⟩ := s.write hL
  simp [h2, vLen, seqOf, asL, h3]
theorem Ev.ixM (i : Nat) {xs : List α} {m : ME} {p : Option Int} (h1 : Ev L m eI p) (hL : L[i]? = some (.m (.lst (xs.map e))) := by rfl) : Ev L (mBin vIx (mVar i) m) e (pB1 (pIx xs) p) := fun S0 σ S s v hv => by
  obtain ⟨a, ha, hv⟩ := bs hv
  obtain ⟨n, h2, h3, _⟩ := s.write hL
  have hv' : atI xs a = some v := hv
  simp [h2, h1 S0 σ S s a ha, h3, atI_map, hv']
/-! ### dicts -/
section
variable {κ κ' : Type} [DecidableEq κ] [DecidableEq κ']
def valT (kvs : List (κ × α)) (k : κ) : Option α := (kvs.find? fun kv => decide (kv.1 = k)).map (·.2)
def putT (kvs : List (κ × α)) (k : κ) (a : α) : List (κ × α) := if (valT kvs k).isSome then kvs.map fun kv => if kv.1 = k then (kv.1, a) else kv else kvs ++ [(k, a)]
abbrev eKV (kk : κ → κ') (e : Enc α) : κ × α → κ' × D := fun kv => (kk kv.1, e kv.2)
theorem valD_map {kk : κ → κ'} (hk : ∀ a b, kk a = kk b → a = b) (kvs : List (κ × α)) (k : κ) : valD (kvs.map (eKV kk e)) (kk k) = (valT kvs k).map e := by
  have hd : ∀ a b : κ, decide (kk a = kk b) = decide (a = b) := fun a b => by
    by_cases h : a = b
    · subst h; simp
    · have : kk a ≠ kk b := fun z => h (hk a b z)
      simp [h, this]
  induction kvs with
  | nil => rfl
  | cons kv r ih =>
    unfold valD valT at *
    simp only [List.map_cons, List.find?_cons]
    rw [hd]
    by_cases h : kv.1 = k
    · simp [h]
    · simp only [h, decide_false]
      exact ih
theorem putD_map {kk : κ → κ'} (hk : ∀ a b, kk a = kk b → a = b) (kvs : List (κ × α)) (k : κ) (a : α) : putD (kvs.map (eKV kk e)) (kk k) (e a) = (putT kvs k a).map (eKV kk e) := by
  unfold putD putT
  rw [valD_map hk]
  cases hv : valT kvs k with
  | none => simp
  | some b =>
    simp only [Option.map_some, Option.isSome_some, if_true, List.map_map]
    congr 1
    funext kv
    by_cases h : kv.1 = k
    · simp [h]
    · have : kk kv.1 ≠ kk k := fun z => h (hk _ _ z)
      simp [h, this]
/-- keys: an int, a text; tuples -/
structure KK (ek : Enc κ) (kk : κ → Key) : Prop where
  inj : ∀ a b, kk a = kk b → a = b
  key : ∀ k, keyD (ek k) = some (kk k)
  back : ∀ k, kD (kk k) = ek k
structure KT (ek : Enc κ) (kk : κ → List Key) : Prop where
  inj : ∀ a b, kk a = kk b → a = b
  key : ∀ k, keyT (ek k) = some (kk k)
  back : ∀ k, PyData.tuple ((kk k).map kD) = ek k
theorem StN.putK (i : Nat) {ek : Enc κ} {kk : κ → Key} (K : KK ek kk) {kvs : List (κ × α)} {mk mv : ME} {pk : Option κ} {pv : Option α} (h1 : Ev L mv e pv) (h2 : Ev L mk ek pk) (hL : L[i]? = some (.m (.dK (kvs.map (eKV kk e)))) := by rfl) :
    StN L (mSetI vSetI (mVar i) mk mv) (pB2 (fun v k => if okLen (kvs.length + 1) = true then some (putT kvs k v) else none) pv pk) (fun ys => L.set i (.m (.dK (ys.map (eKV kk e))))) := fun S0 σ S s ys hy => by
  obtain ⟨v, hv, hy⟩ := bs hy
  obtain ⟨k, hk, hy⟩ := bs hy
  obtain ⟨n, h3, h4, h5⟩ := s.write hL
  split at hy
  · rename_i q
    cases hy
    refine ⟨σ, S.set n (.dK ((putT kvs k v).map (eKV kk e))), ?_, h5 _⟩
    simp [h1 S0 σ S s v hv, h2 S0 σ S s k hk, h3, vSetI, h4, K.key, fits_of q, putD_map K.inj]
  · cases hy
theorem StN.putT (i : Nat) {ek : Enc κ} {kk : κ → List Key} (K : KT ek kk) {kvs : List (κ × α)} {mk mv : ME} {pk : Option κ} {pv : Option α} (h1 : Ev L mv e pv) (h2 : Ev L mk ek pk) (hL : L[i]? = some (.m (.dT (kvs.map (eKV kk e)))) := by rfl) :
    StN L (mSetI vSetI (mVar i) mk mv) (pB2 (fun v k => if okLen (kvs.length + 1) = true then some (DL.putT kvs k v) else none) pv pk) (fun ys => L.set i (.m (.dT (ys.map (eKV kk e))))) := fun S0 σ S s ys hy => by
  obtain ⟨v, hv, hy⟩ := bs hy
  obtain ⟨k, hk, hy⟩ := bs hy
  obtain ⟨n, h3, h4, h5⟩ := s.write hL
  split at hy
  · rename_i q
    cases hy
    refine ⟨σ, S.set n (.dT ((DL.putT kvs k v).map (eKV kk e))), ?_, h5 _⟩
    simp [h1 S0 σ S s v hv, h2 S0 σ S s k hk, h3, vSetI, h4, K.key, fits_of q, putD_map K.inj]
  · cases hy
theorem Ev.getK (i : Nat) {ek : Enc κ} {kk : κ → Key} (K : KK ek kk) {kvs : List (κ × α)} {mk : ME} {pk : Option κ} (h2 : Ev L mk ek pk) (hL : L[i]? = some (.m (.dK (kvs.map (eKV kk e)))) := by rfl) : Ev L (mBin vDGet (mVar i) mk) e (pB1 (valT kvs) pk) := fun S0 σ S s v hv => by
  obtain ⟨k, hk, hv⟩ := bs hv
  obtain ⟨n, h3, h4, h5⟩ := s.write hL
  simp [h3, h2 S0 σ S s k hk, vDGet, lookD, h4, K.key, valD_map K.inj, hv]
theorem Ev.getT (i : Nat) {ek : Enc κ} {kk : κ → List Key} (K : KT ek kk) {kvs : List (κ × α)} {mk : ME} {pk : Option κ} (h2 : Ev L mk ek pk) (hL : L[i]? = some (.m (.dT (kvs.map (eKV kk e)))) := by rfl) : Ev L (mBin vDGet (mVar i) mk) e (pB1 (valT kvs) pk) := fun S0 σ S s v hv => by
  obtain ⟨k, hk, hv⟩ := bs hv
  obtain ⟨n, h3, h4, h5⟩ := s.write hL
  simp [h3, h2 S0 σ S s k hk, vDGet, lookD, h4, K.key, valD_map K.inj, hv]
theorem Ev.hasK (i : Nat) {ek : Enc κ} {kk : κ → Key} (K : KK ek kk) {kvs : List (κ × α)} {mk : ME} {pk : Option κ} (h2 : Ev L mk ek pk) (hL : L[i]? = some (.m (.dK (kvs.map (eKV kk e)))) := by rfl) : Ev L (mBin vIn mk (mVar i)) eB (pk.map fun k => (valT kvs k).isSome) := fun S0 σ S s v hv => by
  rw [Option.map_eq_some_iff] at hv
  obtain ⟨k, hk, rfl⟩ := hv
  obtain ⟨n, h3, h4, h5⟩ := s.write hL
  simp [h3, h2 S0 σ S s k hk, vIn, vHas, lookD, h4, K.key, valD_map K.inj]
theorem Ev.hasT (i : Nat) {ek : Enc κ} {kk : κ → List Key} (K : KT ek kk) {kvs : List (κ × α)} {mk : ME} {pk : Option κ} (h2 : Ev L mk ek pk) (hL : L[i]? = some (.m (.dT (kvs.map (eKV kk e)))) := by rfl) : Ev L (mBin vIn mk (mVar i)) eB (pk.map fun k => (valT kvs k).isSome) := fun S0 σ S s v hv => by
  rw [Option.map_eq_some_iff] at hv
  obtain ⟨k, hk, rfl⟩ := hv
  obtain ⟨n, h3, h4, h5⟩ := s.write hL
  simp [h3, h2 S0 σ S s k hk, vIn, vHas, lookD, h4, K.key, valD_map K.inj]
theorem KK.int : KK eI (fun i => Sum.inl i) := ⟨fun a b z => by cases z; rfl, fun _ => rfl, fun _ => rfl⟩
theorem KK.str : KK eS (fun i => Sum.inr i) := ⟨fun a b z => by cases z; rfl, fun _ => rfl, fun _ => rfl⟩
theorem keysD_ints : ∀ ns : List Int, keysD (ns.map eI) = some (ns.map Sum.inl)
  | [] => rfl
  | n :: ns => by simp [keysD, keyD, keysD_ints ns]
theorem inl_inj : ∀ a b : List Int, (a.map Sum.inl : List Key) = b.map Sum.inl → a = b
  | [], [], _ => rfl
  | [], _ :: _, h => by cases h
  | _ :: _, [], h => by cases h
  | x :: a, y :: b, h => by
    simp only [List.map_cons, List.cons.injEq, Sum.inl.injEq] at h
    rw [h.1, inl_inj a b h.2]
theorem KT.nums : KT (eV eI) (fun ns => ns.map Sum.inl) := ⟨inl_inj, fun k => keysD_ints k, fun k => by simp [kD, Function.comp_def]⟩
theorem KT.ii : KT (eP eI eI) (fun p => [Sum.inl p.1, Sum.inl p.2]) := ⟨fun a b z => by cases a; cases b; cases z; rfl, fun k => rfl, fun k => rfl⟩
end
/-! ### defs -/
theorem sat_start (S : Sto) (n : Nat) (ws : List D) : Sat S (ws.map (fun d => Sl.w (.d d)) ++ List.replicate (n - ws.length) .j) (ws.map (fun d => some (W.d d)) ++ List.replicate (n - ws.length) none) S := by
  refine ⟨by simp, by simp, fun i x hx => ?_, fun _ => 0, fun i o ho => ?_, fun i j o o' h1 => ?_⟩
  · by_cases hi : i < ws.length
    · rw [List.getElem?_append_left (by simpa using hi)] at hx ⊢
      rw [List.getElem?_map] at hx ⊢
      cases h : ws[i]? with
      | none => rw [h] at hx; cases hx
      | some d => rw [h] at hx; cases hx; rfl
    · rw [List.getElem?_append_right (by simpa using hi), List.getElem?_replicate] at hx
      split at hx <;> cases hx
  · exfalso
    by_cases hi : i < ws.length
    · rw [List.getElem?_append_left (by simpa using hi), List.getElem?_map] at ho
      cases h : ws[i]? with
      | none => rw [h] at ho; cases ho
      | some d => rw [h] at ho; cases ho
    · rw [List.getElem?_append_right (by simpa using hi), List.getElem?_replicate] at ho
      split at ho <;> cases ho
  · exfalso
    by_cases hi : i < ws.length
    · rw [List.getElem?_append_left (by simpa using hi), List.getElem?_map] at h1
      cases h : ws[i]? with
      | none => rw [h] at h1; cases h1
      | some d => rw [h] at h1; cases h1
    · rw [List.getElem?_append_right (by simpa using hi), List.getElem?_replicate] at h1
      split at h1 <;> cases h1
theorem fn_st {n : Nat} {b : MS} {p : Option ρ} (ws : List D) (h1 : StF (ws.map (fun d => Sl.w (.d d)) ++ List.replicate (n - ws.length) .j) b er p) (S : Sto) (r : ρ) (hr : p = some r) : fnD n b (ws.map W.d) S = some (.d (er r), S) := by
  obtain ⟨S', h2, h3⟩ := h1 S _ S (sat_start S n ws) r hr
  unfold fnD
  have : (List.map some (List.map W.d ws) ++ List.replicate (n - (List.map W.d ws).length) none : Env) = (ws.map (fun d => some (W.d d)) ++ List.replicate (n - ws.length) none) := by simp
  rw [this, h2]
  simp [h3, trimOk_take h3]
theorem fn_stN {n : Nat} {b : MS} {p : Option α} {L1 : α → List Sl} (ws : List D) (h1 : StN (ws.map (fun d => Sl.w (.d d)) ++ List.replicate (n - ws.length) .j) b p L1) (S : Sto) (r : Unit) (hr : p.map (fun _ => ()) = some r) : fnD n b (ws.map W.d) S = some (.d (eN r), S) := by
  rw [Option.map_eq_some_iff] at hr
  obtain ⟨a, ha, _⟩ := hr
  obtain ⟨σ', S', h2, h3⟩ := h1 S _ S (sat_start S n ws) a ha
  unfold fnD
  have : (List.map some (List.map W.d ws) ++ List.replicate (n - (List.map W.d ws).length) none : Env) = (ws.map (fun d => some (W.d d)) ++ List.replicate (n - ws.length) none) := by simp
  rw [this, h2]
  have := h3.base
  simp [this, trimOk_take this, eN]
end
end DL

set_option Elab.async false
set_option linter.all false
set_option maxRecDepth 100000
set_option autoImplicit false
/-! The typed layer: what operators and built-in functions do to values. -/
noncomputable section
namespace DL
open PySem PySem.Spec PyProof.Rows L2
theorem Le.nil : Le [] [] := trivial
theorem Le.j {a : Sl} {l l' : List Sl} (h : Le l l') : Le (a :: l) (.j :: l') := ⟨.inl rfl, h⟩
theorem Le.e {a : Sl} {l l' : List Sl} (h : Le l l') : Le (a :: l) (a :: l') := ⟨.inr rfl, h⟩
section
variable {α β γ δ ρ : Type} {L : List Sl} {e : Enc α} {f : Enc β}
/-! ### operators -/
theorem tAdd : G2T vAdd eI eI eI (fun a b => some (a + b)) := fun S a b c h => by cases h; rfl
theorem tSub : G2T vSub eI eI eI (fun a b => some (a - b)) := fun S a b c h => by cases h; rfl
theorem tMul : G2T vMul eI eI eI pMul := fun S a b c h => by
  unfold pMul at h
  split at h
  · rename_i q
    cases h
    rw [Bool.or_eq_true, decide_eq_true_eq, decide_eq_true_eq] at q
    rcases q with q | q
    · simp [mulOk_l q.1 q.2]
    · simp [mulOk_r q.1 q.2]
  · cases h
theorem tDiv : G2T vFdiv eI eI eI pDiv := fun S a b c h => by
  unfold pDiv at h
  split at h
  · rename_i q
    have q := of_decide_eq_true q
    cases h
    simp [divOk_of q.1 q.2]
  · cases h
theorem tMod : G2T vMod eI eI eI pMod := fun S a b c h => by
  unfold pMod at h
  split at h
  · rename_i q
    have q := of_decide_eq_true q
    cases h
    simp [q]
  · cases h
theorem tPow : G2T vPow eI eI eI pPow := fun S a b c h => by
  unfold pPow at h
  split at h
  · rename_i q
    have q := of_decide_eq_true q
    cases h
    simp [powOk_s q.1 q.2.1 q.2.2]
  · cases h
theorem tXor : G2T (vInt2 Builtin.bitXor) eI eI eI (fun a b => some (Builtin.bitXor a b)) := fun S a b c h => by cases h; rfl
theorem tAnd : G2T (vInt2 Builtin.bitAnd) eI eI eI (fun a b => some (Builtin.bitAnd a b)) := fun S a b c h => by cases h; rfl
theorem tLt : G2T vLt eI eI eB (fun a b => some (decide (a < b))) := fun S a b c h => by cases h; rfl
theorem tLe : G2T vLe eI eI eB (fun a b => some (decide (a ≤ b))) := fun S a b c h => by cases h; rfl
theorem tGt : G2T vGt eI eI eB (fun a b => some (decide (b < a))) := fun S a b c h => by cases h; rfl
theorem tGe : G2T vGe eI eI eB (fun a b => some (decide (b ≤ a))) := fun S a b c h => by cases h; rfl
theorem tNeg : G1T vNeg eI eI (fun a => some (-a)) := fun S a b h => by cases h; rfl
theorem tAddL : G2T vAdd (eL e) (eL e) (eL e) pApp := fun S a b c h => by
  obtain ⟨rfl, h, _⟩ := pFit_some h
  simp [vAdd, show fits (a.length + b.length) = true by simpa using h]
theorem tAddV : G2T vAdd (eV e) (eV e) (eV e) pApp := fun S a b c h => by
  obtain ⟨rfl, h, _⟩ := pFit_some h
  simp [vAdd, show fits (a.length + b.length) = true by simpa using h]
theorem tIxL : G2T vIx (eL e) eI e pIx := fun S a b c h => by
  have h : atI a b = some c := h
  simp [atI_map, h]
theorem tIxV : G2T vIx (eV e) eI e pIx := fun S a b c h => by
  have h : atI a b = some c := h
  simp [atI_map, h]
/-! equality -/
structure EqE {α : Type} [DecidableEq α] (e : Enc α) (n : Nat) : Prop where
  eqv : ∀ a b, PyData.eqv (e a) (e b) = decide (a = b)
  lay : ∀ a, PyData.canLay0 (e a) = true
  dep : ∀ a, (e a).depth ≤ n
  nos : ∀ a x, e a ≠ .str x
theorem EqE.int : EqE eI 0 := ⟨fun a b => by simp, fun _ => rfl, fun _ => by simp [PyData.depth], fun _ _ z => by cases z⟩
theorem EqE.bool : EqE eB 0 := ⟨fun a b => by cases a <;> cases b <;> simp [PyData.eqv], fun _ => rfl, fun _ => by simp [PyData.depth], fun _ _ z => by cases z⟩
theorem eqvAll_map [DecidableEq α] {n : Nat} (E : EqE e n) : ∀ xs ys : List α, PyData.eqvAll (xs.map e) (ys.map e) = decide (xs = ys)
  | [], [] => by simp [PyData.eqvAll]
  | [], _ :: _ => by simp [PyData.eqvAll]
  | _ :: _, [] => by simp [PyData.eqvAll]
  | x :: xs, y :: ys => by simp only [List.map_cons, PyData.eqvAll, E.eqv, eqvAll_map E xs ys, List.cons.injEq, Bool.decide_and]
theorem layAll_map [DecidableEq α] {n : Nat} (E : EqE e n) : ∀ xs : List α, PyData.canLayAll0 (xs.map e) = true
  | [] => by simp [PyData.canLayAll0]
  | x :: xs => by simp [PyData.canLayAll0, E.lay, layAll_map E xs]
theorem depAll_map [DecidableEq α] {n : Nat} (E : EqE e n) : ∀ xs : List α, PyData.depthAll (xs.map e) ≤ n
  | [] => by simp [PyData.depthAll]
  | x :: xs => by
    have := E.dep x
    have := depAll_map E xs
    simp [PyData.depthAll]; omega
theorem EqE.l [DecidableEq α] {n : Nat} (E : EqE e n) : EqE (eL e) (n + 1) := ⟨fun a b => by simp only [PyData.eqv]; exact eqvAll_map E a b, fun a => by simp [PyData.canLay0, layAll_map E], fun a => by
  have := depAll_map E a
  simp [PyData.depth]; omega, fun _ _ z => by cases z⟩
theorem EqE.v [DecidableEq α] {n : Nat} (E : EqE e n) : EqE (eV e) (n + 1) := ⟨fun a b => by simp only [PyData.eqv]; exact eqvAll_map E a b, fun a => by simp [PyData.canLay0, layAll_map E], fun a => by
  have := depAll_map E a
  simp [PyData.depth]; omega, fun _ _ z => by cases z⟩
theorem EqE.p [DecidableEq α] [DecidableEq β] {n : Nat} (E : EqE e n) (F : EqE f n) : EqE (eP e f) (n + 1) := ⟨fun a b => by
  obtain ⟨a1, a2⟩ := a
  obtain ⟨b1, b2⟩ := b
  simp [PyData.eqv, PyData.eqvAll, E.eqv, F.eqv], fun a => by simp [PyData.canLay0, PyData.canLayAll0, E.lay, F.lay], fun a => by
  have := E.dep a.1
  have := F.dep a.2
  simp [PyData.depth, PyData.depthAll]; omega, fun _ _ z => by cases z⟩
theorem EqE.shaped [DecidableEq α] {n : Nat} (E : EqE e n) (hn : n ≤ 64) (a : α) : SeqAt.shaped (e a) = true := by
  unfold SeqAt.shaped
  rw [E.lay, Bool.true_and]
  exact decide_eq_true (Nat.le_trans (E.dep a) hn)
theorem strs2_none {d d' : D} (h : ∀ x, d ≠ .str x) : strs2 (.d d) (.d d') = none := by
  unfold strs2
  split
  · rename_i h1 _
    cases h1
    exact absurd rfl (h _)
  · rfl
theorem tEq [DecidableEq α] {n : Nat} (E : EqE e n) (hn : n ≤ 64 := by decide) : G2T vEq e e eB (fun a b => some (decide (a = b))) := fun S a b c h => by
  cases h
  simp [vEq, strs2_none (E.nos a), asD, E.shaped hn, E.eqv]
theorem tNe [DecidableEq α] {n : Nat} (E : EqE e n) (hn : n ≤ 64 := by decide) : G2T vNe e e eB (fun a b => some (!decide (a = b))) := fun S a b c h => by
  cases h
  simp [vNe, strs2_none (E.nos a), asD, E.shaped hn, E.eqv]
theorem beq_str (a b : Str) : (a == b) = decide (a = b) := by
  by_cases h : a = b
  · subst h; simp
  · simp [h]
theorem tEqS : G2T vEq eS eS eB (fun a b => some (decide (a = b))) := fun S a b c h => by
  cases h
  simp [vEq, strs2, beq_str]
theorem tNeS : G2T vNe eS eS eB (fun a b => some (!decide (a = b))) := fun S a b c h => by
  cases h
  simp [vNe, strs2, beq_str]
theorem Ev.isN {m : ME} {p : Option (Option α)} (hn : ∀ a, e a ≠ .none) (h1 : Ev L m (eO e) p) : Ev L (mBin vIsN m mNone) eB (p.map Option.isNone) := fun S0 σ S s v hv => by
  rw [Option.map_eq_some_iff] at hv
  obtain ⟨a, ha, rfl⟩ := hv
  cases a with
  | none => simp [h1 S0 σ S s _ ha, vIsN, eO, isNone]
  | some x =>
    have : isNone (.d (e x)) = false := by
      unfold isNone
      split
      · rename_i q
        cases hq : e x <;> rw [hq] at q <;> first | exact absurd hq (hn x) | cases q
      · rfl
    simp [h1 S0 σ S s _ ha, vIsN, eO, this]
/-! membership -/
theorem has_map [DecidableEq α] {n : Nat} (E : EqE e n) (x : α) (xs : List α) : hasD (e x) (xs.map e) = decide (x ∈ xs) := by
  unfold hasD
  induction xs with
  | nil => simp
  | cons y ys ih =>
    simp only [List.map_cons, List.any_cons, ih, E.eqv, List.mem_cons, Bool.decide_or]
    congr 1
    exact decide_eq_decide.mpr ⟨fun h => h.symm, fun h => h.symm⟩
theorem flat_map (hf : ∀ a, flatD (e a) = true) (x : α) (xs : List α) : memOk (e x) (xs.map e) = true := by
  unfold memOk
  simp [hf]
theorem tInL [DecidableEq α] {n : Nat} (E : EqE e n) (hn : n ≤ 63 := by decide) : G2T vIn e (eL e) eB (fun a b => some (decide (a ∈ b))) := fun S a b c h => by
  cases h
  have h1 := E.shaped (by omega) a
  have h2 := E.l.shaped (by omega) b
  have l1 : lookD S (.d (eL e b)) (.d (e a)) = none := rfl
  have h2' : SeqAt.shaped (.list (b.map e)) = true := h2
  simp only [vIn, vHas, l1, asD, Option.bind_some, asT, asL_d, has_map E, h1, h2', Bool.and_true, if_true, ite_self, Option.map_some]
theorem tNinL [DecidableEq α] {n : Nat} (E : EqE e n) (hn : n ≤ 63 := by decide) : G2T vNotIn e (eL e) eB (fun a b => some (!decide (a ∈ b))) := fun S a b c h => by
  cases h
  have h1 := E.shaped (by omega) a
  have h2 := E.l.shaped (by omega) b
  have l1 : lookD S (.d (eL e b)) (.d (e a)) = none := rfl
  have h2' : SeqAt.shaped (.list (b.map e)) = true := h2
  simp only [vNotIn, vHas, l1, asD, Option.bind_some, asT, asL_d, has_map E, h1, h2', Bool.and_true, if_true, ite_self, Option.map_some]
theorem tInV : G2T vIn eI (eV eI) eB (fun a b => some (decide (a ∈ b))) := fun S a b c h => by cases h; exact in_tup S a b
theorem tNinV : G2T vNotIn eI (eV eI) eB (fun a b => some (!decide (a ∈ b))) := fun S a b c h => by cases h; exact notIn_tup S a b
/-- .. a constant tuple of the top -/
theorem Ev.inC {x : Option α} [DecidableEq α] {m : ME} {xs : List α} (hf : ∀ a, flatD (e a) = true) (hE : ∀ a b, PyData.eqv (e a) (e b) = decide (a = b)) (h1 : Ev L m e x) {ds : List D} (hd : ds = xs.map e := by rfl) : Ev L (mBin vIn m (mC (.ct ds))) eB (x.map fun a => decide (a ∈ xs)) := fun S0 σ S s v hv => by
  rw [Option.map_eq_some_iff] at hv
  obtain ⟨a, ha, rfl⟩ := hv
  subst hd
  have hm : hasD (e a) (xs.map e) = decide (a ∈ xs) := by
    unfold hasD
    induction xs with
    | nil => simp
    | cons y ys ih =>
      simp only [List.map_cons, List.any_cons, ih, hE, List.mem_cons, Bool.decide_or]
      congr 1
      exact decide_eq_decide.mpr ⟨fun h => h.symm, fun h => h.symm⟩
  simp [h1 S0 σ S s a ha, vIn, vHas, asD, flat_map hf, hm]
theorem Ev.ninC {x : Option α} [DecidableEq α] {m : ME} {xs : List α} (hf : ∀ a, flatD (e a) = true) (hE : ∀ a b, PyData.eqv (e a) (e b) = decide (a = b)) (h1 : Ev L m e x) {ds : List D} (hd : ds = xs.map e := by rfl) : Ev L (mBin vNotIn m (mC (.ct ds))) eB (x.map fun a => !decide (a ∈ xs)) := fun S0 σ S s v hv => by
  rw [Option.map_eq_some_iff] at hv
  obtain ⟨a, ha, rfl⟩ := hv
  subst hd
  have hm : hasD (e a) (xs.map e) = decide (a ∈ xs) := by
    unfold hasD
    induction xs with
    | nil => simp
    | cons y ys ih =>
      simp only [List.map_cons, List.any_cons, ih, hE, List.mem_cons, Bool.decide_or]
      congr 1
      exact decide_eq_decide.mpr ⟨fun h => h.symm, fun h => h.symm⟩
  simp [h1 S0 σ S s a ha, vNotIn, vHas, asD, flat_map hf, hm]
theorem flat_I : ∀ a, flatD (eI a) = true := fun _ => rfl
theorem flat_S : ∀ a, flatD (eS a) = true := fun _ => rfl
theorem eqv_I : ∀ a b, PyData.eqv (eI a) (eI b) = decide (a = b) := fun a b => by simp
theorem eqv_S : ∀ a b, PyData.eqv (eS a) (eS b) = decide (a = b) := fun a b => by simp [PyData.eqv, beq_str]
/-! ### built-in functions -/
theorem tLenL : G1T vLen (eL e) eI (fun xs => some (xs.length : Int)) := fun S a b h => by cases h; simp
theorem tLenV : G1T vLen (eV e) eI (fun xs => some (xs.length : Int)) := fun S a b h => by cases h; simp
theorem tLenP : G1T vLen (eP e f) eI (fun _ => some 2) := fun S a b h => by cases h; simp
theorem tAbs : G1T (vInt1 absI) eI eI (fun a => some (absI a)) := fun S a b h => by cases h; rfl
theorem tInt : G1T vInt eI eI (fun a => some a) := fun S a b h => by cases h; rfl
theorem tIntB : G1T vInt eB eI (fun a => some (if a = true then 1 else 0)) := fun S a b h => by cases h; rfl
theorem tMax : G2T (vInt22 maxI) eI eI eI (fun a b => some (maxI a b)) := fun S a b c h => by cases h; rfl
theorem tMin : G2T (vInt22 minI) eI eI eI (fun a b => some (minI a b)) := fun S a b c h => by cases h; rfl
theorem tSumL : G1T vSum (eL eI) eI (fun xs => some xs.sum) := fun S a b h => by cases h; simp [vSum]
theorem tSumV : G1T vSum (eV eI) eI (fun xs => some xs.sum) := fun S a b h => by cases h; simp [vSum]
theorem tAll : G1T vAll (eL eB) eB (fun xs => some (xs.all id)) := fun S a b h => by cases h; simp [vAll]
theorem tAny : G1T vAny (eL eB) eB (fun xs => some (xs.any id)) := fun S a b h => by cases h; simp [vAny]
theorem tMaxL : G1T vMaxL (eL eI) eI pMaxL := fun S a b h => by
  cases a with
  | nil => cases h
  | cons x xs => cases h; simp [vMaxL]
theorem tMinL : G1T vMinL (eL eI) eI pMinL := fun S a b h => by
  cases a with
  | nil => cases h
  | cons x xs => cases h; simp [vMinL]
theorem tTupL : G1T vTuple (eL e) (eV e) (fun xs => some xs) := fun S a b h => by cases h; simp [vTuple]
theorem tTupV : G1T vTuple (eV e) (eV e) (fun xs => some xs) := fun S a b h => by cases h; simp [vTuple]
theorem tLstL : G1T vList (eL e) (eL e) (fun xs => some xs) := fun S a b h => by cases h; simp [vList]
theorem tLstV : G1T vList (eV e) (eL e) (fun xs => some xs) := fun S a b h => by cases h; simp [vList]
/-- isinstance of a value of a known type -/
theorem Ev.isi {m : ME} {p : Option α} {T : String} {b : Bool} (hb : ∀ S a, vIsi S (.d (e a)) (.v (.ty T)) = some (.d (.bool b))) (h1 : Ev L m e p) : Ev L (mCall (pure2 vIsi) (mCons m (mCons (mC (.v (.ty T))) mNil))) eB (p.map fun _ => b) := fun S0 σ S s v hv => by
  rw [Option.map_eq_some_iff] at hv
  obtain ⟨a, ha, rfl⟩ := hv
  simp [h1 S0 σ S s a ha, hb]
/-! ranges as lists -/
def pRangeL (lo hi : Int) : Option (List Int) := (pRange lo hi).bind pFit
theorem rgOk_by {lo hi : Int} {xs : List Int} (h : pRangeL lo hi = some xs) : rgOk lo hi = true ∧ xs = pRange.rangeI lo (hi - lo).toNat := by
  obtain ⟨ys, h1, h2⟩ := bs h
  obtain ⟨q1, q2, q3⟩ := pRange_some h1
  obtain ⟨rfl, _, q4⟩ := pFit_some h2
  refine ⟨?_, q3⟩
  have e1 := congrArg List.length (rangeD_I (hi - lo).toNat lo)
  rw [rangeD_len, List.length_map, ← q3] at e1
  unfold rgOk
  rw [q1, q2]
  simp only [Bool.true_and]
  exact says_true (by omega)
theorem Ev.rgL1 {m : ME} {p : Option Int} (h1 : Ev L m eI p) : Ev L (mListR (rg1 m)) (eL eI) (pB1 (pRangeL 0) p) := fun S0 σ S s v hv => by
  obtain ⟨a, ha, hv⟩ := bs hv
  obtain ⟨q, rfl⟩ := rgOk_by hv
  simp [h1 S0 σ S s a ha, q, rangeD_I]
theorem Ev.rgL2 {m1 m2 : ME} {p1 p2 : Option Int} (h1 : Ev L m1 eI p1) (h2 : Ev L m2 eI p2) : Ev L (mListR (rg2 m1 m2)) (eL eI) (pB2 pRangeL p1 p2) := fun S0 σ S s v hv => by
  obtain ⟨a, ha, hv⟩ := bs hv
  obtain ⟨b, hb, hv⟩ := bs hv
  obtain ⟨q, rfl⟩ := rgOk_by hv
  simp [h1 S0 σ S s a ha, h2 S0 σ S s b hb, q, rangeD_I]
theorem Ev.rgT1 {m : ME} {p : Option Int} (h1 : Ev L m eI p) : Ev L (mTupR (rg1 m)) (eV eI) (pB1 (pRangeL 0) p) := fun S0 σ S s v hv => by
  obtain ⟨a, ha, hv⟩ := bs hv
  obtain ⟨q, rfl⟩ := rgOk_by hv
  simp [h1 S0 σ S s a ha, q, rangeD_I]
theorem Ev.rgT2 {m1 m2 : ME} {p1 p2 : Option Int} (h1 : Ev L m1 eI p1) (h2 : Ev L m2 eI p2) : Ev L (mTupR (rg2 m1 m2)) (eV eI) (pB2 pRangeL p1 p2) := fun S0 σ S s v hv => by
  obtain ⟨a, ha, hv⟩ := bs hv
  obtain ⟨b, hb, hv⟩ := bs hv
  obtain ⟨q, rfl⟩ := rgOk_by hv
  simp [h1 S0 σ S s a ha, h2 S0 σ S s b hb, q, rangeD_I]
/-! ### a dict written in the text, asked at once -/
def EvPr (L : List Sl) (r : MPr) (e : Enc α) (p : Option (List (Key × α))) : Prop := ∀ S0 σ S, Sat S0 L σ S → ∀ kvs, p = some kvs → r σ S = some (kvs.map (eKV (fun k => k) e), S)
theorem EvPr.nil : EvPr L mPr0 e (some []) := fun S0 σ S s kvs hv => by cases hv; rfl
theorem EvPr.cons {k : Key} {m : ME} {r : MPr} {p : Option α} {q : Option (List (Key × α))} (h1 : Ev L m e p) (h2 : EvPr L r e q) : EvPr L (mPr k m r) e (pB2 (fun a kvs => some ((k, a) :: kvs)) p q) := fun S0 σ S s v hv => by
  obtain ⟨a, ha, hv⟩ := bs hv
  obtain ⟨b, hb, hv⟩ := bs hv
  cases hv
  simp [h1 S0 σ S s a ha, h2 S0 σ S s b hb]
def pDisp (kvs : List (Key × α)) (k : Key) : Option α := if Nat.ble kvs.length 15 = true then valT (kvs.foldl (fun acc kv => putT acc kv.1 kv.2) []) k else none
theorem foldl_map (e : Enc α) : ∀ (kvs acc : List (Key × α)), (kvs.map (eKV (fun k => k) e)).foldl (fun acc kv => putD acc kv.1 kv.2) (acc.map (eKV (fun k => k) e)) = (kvs.foldl (fun acc kv => putT acc kv.1 kv.2) acc).map (eKV (fun k => k) e)
  | [], acc => rfl
  | kv :: kvs, acc => by
    simp only [List.map_cons, List.foldl_cons]
    rw [putD_map (kk := fun k => k) (fun a b h => h)]
    exact foldl_map e kvs _
theorem Ev.disp {κ : Type} [DecidableEq κ] {ek : Enc κ} {kk : κ → Key} (K : KK ek kk) {r : MPr} {mi : ME} {p : Option (List (Key × α))} {pk : Option κ} (h1 : EvPr L r e p) (h2 : Ev L mi ek pk) : Ev L (mTmp (mBin vDGet (mDisp r) mi)) e (pB2 (fun kvs k => pDisp kvs (kk k)) p pk) := fun S0 σ S s v hv => by
  obtain ⟨kvs, ha, hv⟩ := bs hv
  obtain ⟨k, hb, hv⟩ := bs hv
  have hv : (if Nat.ble kvs.length 15 = true then valT (kvs.foldl (fun acc kv => putT acc kv.1 kv.2) []) (kk k) else Option.none) = some v := hv
  split at hv
  · rename_i hl
    have hl : kvs.length ≤ 15 := Nat.le_of_ble_eq_true hl
    have s1 := s.push (.dK [])
    have hf := foldl_map e kvs []
    have s2 := s.push (.dK ((kvs.foldl (fun acc kv => putT acc kv.1 kv.2) []).map (eKV (fun k => k) e)))
    have hv' := valD_map (e := e) (kk := fun k => k) (fun a b h => h) (kvs.foldl (fun acc kv => putT acc kv.1 kv.2) []) (kk k)
    rw [hv] at hv'
    simp only [List.map_nil] at hf
    simp [mTmp, mDisp, h1 S0 σ _ s1 kvs ha, hl, hf, h2 S0 σ _ s2 k hb, vDGet, lookD, K.key, hv']
  · cases hv
/-! ### a def that hands back an own object -/
def StFM {ρ : Type} (L : List Sl) (m : MS) (fo : ρ → O) (p : Option ρ) : Prop := ∀ S0 σ S, Sat S0 L σ S → ∀ r, p = some r → ∃ n S', m σ S = some (.rt (.loc n) S') ∧ S0.length ≤ n ∧ S'[n]? = some (fo r) ∧ S'.take S0.length = S0
theorem StFM.ret {ρ : Type} {fo : ρ → O} (i : Nat) {v : ρ} (hL : L[i]? = some (.m (fo v)) := by rfl) : StFM L (mRet (mVar i)) fo (some v) := fun S0 σ S s r hr => by
  cases hr
  obtain ⟨g, g1, _⟩ := s.m
  obtain ⟨a, b, c⟩ := g1 i _ hL
  exact ⟨g i, S, by simp [a], b, c, s.base⟩
theorem StFM.seqN {ρ : Type} {fo : ρ → O} {m1 m2 : MS} {p1 : Option α} {p2 : α → Option ρ} {L1 : α → List Sl} (h1 : StN L m1 p1 L1) (h2 : ∀ a, StFM (L1 a) m2 fo (p2 a)) : StFM L (mSeq m1 m2) fo (p1.bind p2) := fun S0 σ S s r hr => by
  obtain ⟨a, ha, hr⟩ := bs hr
  obtain ⟨σ', S', h3, h4⟩ := h1 S0 σ S s a ha
  obtain ⟨n, S2, h5, h6⟩ := h2 a S0 σ' S' h4 r hr
  exact ⟨n, S2, by simp [h3, h5], h6⟩
theorem fn_stM {ρ : Type} {fo : ρ → O} {n : Nat} {b : MS} {p : Option ρ} (ws : List D) (h1 : StFM (ws.map (fun d => Sl.w (.d d)) ++ List.replicate (n - ws.length) .j) b fo p) (S : Sto) (r : ρ) (hr : p = some r) (hfo : ∀ r, (fo r).refs = [] := by intro _; rfl) : fnD n b (ws.map W.d) S = some (.loc S.length, S ++ [fo r]) := by
  obtain ⟨k, S', h2, h3, h4, h5⟩ := h1 S _ S (sat_start S n ws) r hr
  unfold fnD
  have : (List.map some (List.map W.d ws) ++ List.replicate (n - (List.map W.d ws).length) none : Env) = (ws.map (fun d => some (W.d d)) ++ List.replicate (n - ws.length) none) := by simp
  rw [this, h2]
  simp [trim, h3, h4, h5, trimOk_take h5, lowOk_of (hfo r)]
end
end DL

set_option Elab.async false
set_option linter.all false
set_option maxRecDepth 100000
set_option autoImplicit false
/-! The typed layer for defs that draw (or fill a table that was handed in): what they come to, whatever is drawn. -/
noncomputable section
namespace DL
open PySem PySem.Spec PyProof.Rows L2
abbrev Dm (st α : Type) := st → (α → st → Prop) → Prop
section
variable {st α β γ δ ρ : Type}
@[simp] def dBind (m : Dm st α) (f : α → Dm st β) : Dm st β := fun s Q => m s fun a s' => f a s' Q
@[simp] def dOpt (p : Option α) : Dm st α := fun s Q => ∃ a, p = some a ∧ Q a s
@[simp] def dOptS (p : st → Option α) : Dm st α := fun s Q => ∃ a, p s = some a ∧ Q a s
@[simp] def dMap (f : α → β) (m : Dm st α) : Dm st β := fun s Q => m s fun a s' => Q (f a) s'
@[simp] def dIf (t : Dm st Bool) (a b : Dm st α) : Dm st α := fun s Q => t s fun c s' => if c = true then a s' Q else b s' Q
/-- some number less than u is drawn -/
def dTake {τ : Type} (u : Int) : Dm (Int × τ) Int := fun s Q => 0 < u ∧ u < 18446744073709551616 ∧ s.1 < 1000000 ∧ ∀ d, 0 ≤ d → d < u → Q d (s.1 + 1, s.2)
def dComp (t : α → Dm st Bool) (m : α → Dm st β) : List α → Dm st (List β)
  | [] => fun s Q => Q [] s
  | x :: xs => fun s Q => t x s fun c s1 => if c = true then m x s1 fun y s2 => dComp t m xs s2 fun ys s3 => Q (y :: ys) s3 else dComp t m xs s1 Q
def dFor (b : α → β → Dm st α) : List β → α → Dm st α
  | [], a => fun s Q => Q a s
  | x :: xs, a => fun s Q => b a x s fun a' s' => dFor b xs a' s' Q
def dForR (b : α → β → Dm st (α ⊕ ρ)) : List β → α → Dm st (α ⊕ ρ)
  | [], a => fun s Q => Q (.inl a) s
  | x :: xs, a => fun s Q => b a x s fun r s' => match r with
    | .inl a' => dForR b xs a' s' Q
    | .inr r => Q (.inr r) s'
def dWhile (c : α → Dm st Bool) (b : α → Dm st α) : Nat → α → Dm st α
  | 0, _ => fun _ _ => False
  | n + 1, a => fun s Q => c a s fun k s1 => if k = true then b a s1 fun a' s2 => dWhile c b n a' s2 Q else Q a s1
@[simp] def dSeqR {α' : Type} (p : Dm st (α ⊕ ρ)) (q : α → Dm st (α' ⊕ ρ)) : Dm st (α' ⊕ ρ) := fun s Q => p s fun r s' => match r with
  | .inl a => q a s' Q
  | .inr r => Q (.inr r) s'
@[simp] def dSeqF (p : Dm st (α ⊕ ρ)) (q : α → Dm st ρ) : Dm st ρ := fun s Q => p s fun r s' => match r with
  | .inl a => q a s' Q
  | .inr r => Q r s'
end
abbrev WP {τ : Type} : Int × τ → O → Prop := fun s o => Pot s.1 o
section
variable {st : Type} {n : Nat} {Wd : st → O → Prop} {L : st → List Sl} {α β γ δ ρ : Type} {e : Enc α} {f : Enc β} {h : Enc γ} {o4 : Enc δ} {er : Enc ρ}
def DvE (n : Nat) (Wd : st → O → Prop) (L : st → List Sl) (m : ME) (e : Enc α) (d : Dm st α) : Prop := ∀ (S0 : Sto) (σ : Env) (S : Sto) (s : st) (o : O) Q, n < S0.length → Sat (S0.set n o) (L s) σ S → Wd s o → d s Q → ∃ a s' o' S', m σ S = some (.d (e a), S') ∧ Q a s' ∧ Sat (S0.set n o') (L s') σ S' ∧ Wd s' o'
def DvT (n : Nat) (Wd : st → O → Prop) (L : st → List Sl) (m : MT) (d : Dm st Bool) : Prop := ∀ (S0 : Sto) (σ : Env) (S : Sto) (s : st) (o : O) Q, n < S0.length → Sat (S0.set n o) (L s) σ S → Wd s o → d s Q → ∃ a s' o' S', m σ S = some (a, S') ∧ Q a s' ∧ Sat (S0.set n o') (L s') σ S' ∧ Wd s' o'
def DvL (n : Nat) (Wd : st → O → Prop) (L : st → List Sl) (m : MA) (e : Enc α) (d : Dm st (List α)) : Prop := ∀ (S0 : Sto) (σ : Env) (S : Sto) (s : st) (o : O) Q, n < S0.length → Sat (S0.set n o) (L s) σ S → Wd s o → d s Q → ∃ (a : List α) (s' : st) (o' : O) (S' : Sto), m σ S = some (a.map fun v => .d (e v), S') ∧ Q a s' ∧ Sat (S0.set n o') (L s') σ S' ∧ Wd s' o'
def DvI (n : Nat) (Wd : st → O → Prop) (L : st → List Sl) (m : MI) (e : Enc α) (d : Dm st (List α)) : Prop := ∀ (S0 : Sto) (σ : Env) (S : Sto) (s : st) (o : O) Q, n < S0.length → Sat (S0.set n o) (L s) σ S → Wd s o → d s Q → ∃ (a : List α) (s' : st) (o' : O) (S' : Sto), m σ S = some (a.map e, S') ∧ Q a s' ∧ Sat (S0.set n o') (L s') σ S' ∧ Wd s' o'
def DvN (n : Nat) (Wd : st → O → Prop) (L : st → List Sl) (m : MS) (d : Dm st α) (L1 : α → st → List Sl) : Prop := ∀ (S0 : Sto) (σ : Env) (S : Sto) (s : st) (o : O) Q, n < S0.length → Sat (S0.set n o) (L s) σ S → Wd s o → d s Q → ∃ a s' o' σ' S', m σ S = some (.nx σ' S') ∧ Q a s' ∧ Sat (S0.set n o') (L1 a s') σ' S' ∧ Wd s' o'
def DvF (n : Nat) (Wd : st → O → Prop) (L : st → List Sl) (m : MS) (e : Enc ρ) (d : Dm st ρ) : Prop := ∀ (S0 : Sto) (σ : Env) (S : Sto) (s : st) (o : O) Q, n < S0.length → Sat (S0.set n o) (L s) σ S → Wd s o → d s Q → ∃ r s' o' S', m σ S = some (.rt (.d (e r)) S') ∧ Q r s' ∧ S'.take S0.length = S0.set n o' ∧ Wd s' o'
def DvR (n : Nat) (Wd : st → O → Prop) (L : st → List Sl) (m : MS) (e : Enc ρ) (d : Dm st (α ⊕ ρ)) (L1 : α → st → List Sl) : Prop := ∀ (S0 : Sto) (σ : Env) (S : Sto) (s : st) (o : O) Q, n < S0.length → Sat (S0.set n o) (L s) σ S → Wd s o → d s Q →
  (∃ a s' o' σ' S', m σ S = some (.nx σ' S') ∧ Q (.inl a) s' ∧ Sat (S0.set n o') (L1 a s') σ' S' ∧ Wd s' o') ∨ ∃ r s' o' S', m σ S = some (.rt (.d (e r)) S') ∧ Q (.inr r) s' ∧ S'.take S0.length = S0.set n o' ∧ Wd s' o'
/-- a def: the object at n is what it draws from, or fills -/
def DrF (Wd : st → O → Prop) (F : Fn) (ws : Nat → List W) (er : Enc ρ) (d : Dm st ρ) : Prop := ∀ (S : Sto) (n : Nat) (s : st) (o : O) Q, S[n]? = some o → Wd s o → d s Q → ∃ r s' o', F (ws n) S = some (.d (er r), S.set n o') ∧ Q r s' ∧ Wd s' o'
theorem Sat.atN {S0 : Sto} {L : List Sl} {σ : Env} {S : Sto} {o : O} (hn : n < S0.length) (s : Sat (S0.set n o) L σ S) : S[n]? = some o := by
  have h1 := s.base
  rw [List.length_set] at h1
  have : (S.take S0.length)[n]? = some o := by rw [h1, List.getElem?_set_self hn]
  rw [List.getElem?_take_of_lt hn] at this
  exact this
theorem Sat.setB {S0 : Sto} {L : List Sl} {σ : Env} {S : Sto} {o : O} (hn : n < S0.length) (s : Sat (S0.set n o) L σ S) (o' : O) : Sat (S0.set n o') L σ (S.set n o') := by
  refine ⟨s.len, ?_, s.w, ?_⟩
  · have h1 := s.base
    rw [List.length_set] at h1 ⊢
    rw [List.take_set, h1, List.set_set]
  · obtain ⟨g, g1, g2⟩ := s.m
    refine ⟨g, fun i o2 e => ?_, g2⟩
    obtain ⟨a, b, c⟩ := g1 i o2 e
    rw [List.length_set] at b ⊢
    refine ⟨a, b, ?_⟩
    rw [List.getElem?_set_ne (by omega)]
    exact c
theorem DvE.pure {m : ME} {p : Option α} (h1 : ∀ s, Ev (L s) m e p) : DvE n Wd L m e (dOpt p) := fun S0 σ S s o Q hn hs hw ⟨a, ha, hq⟩ => ⟨a, s, o, S, h1 s _ σ S hs a ha, hq, hs, hw⟩
theorem DvE.pureS {m : ME} {p : st → Option α} (h1 : ∀ s, Ev (L s) m e (p s)) : DvE n Wd L m e (dOptS p) := fun S0 σ S s o Q hn hs hw ⟨a, ha, hq⟩ => ⟨a, s, o, S, h1 s _ σ S hs a ha, hq, hs, hw⟩
theorem DvT.pure {m : MT} {p : Option Bool} (h1 : ∀ s, Te (L s) m p) : DvT n Wd L m (dOpt p) := fun S0 σ S s o Q hn hs hw ⟨a, ha, hq⟩ => ⟨a, s, o, S, h1 s _ σ S hs a ha, hq, hs, hw⟩
theorem DvI.pure {m : MI} {p : Option (List α)} (h1 : ∀ s, It (L s) m e p) : DvI n Wd L m e (dOpt p) := fun S0 σ S s o Q hn hs hw ⟨a, ha, hq⟩ => ⟨a, s, o, S, h1 s _ σ S hs a ha, hq, hs, hw⟩
theorem DvN.pure {m : MS} {p : Option α} {L1 : α → st → List Sl} (h1 : ∀ s, StN (L s) m p (fun a => L1 a s)) : DvN n Wd L m (dOpt p) L1 := fun S0 σ S s o Q hn hs hw ⟨a, ha, hq⟩ => by
  obtain ⟨σ', S', g1, g2⟩ := h1 s _ σ S hs a ha
  exact ⟨a, s, o, σ', S', g1, hq, g2, hw⟩
theorem DvF.pure {m : MS} {p : Option ρ} (h1 : ∀ s, StF (L s) m er p) : DvF n Wd L m er (dOpt p) := fun S0 σ S s o Q hn hs hw ⟨a, ha, hq⟩ => by
  obtain ⟨S', g1, g2⟩ := h1 s _ σ S hs a ha
  rw [List.length_set] at g2
  exact ⟨a, s, o, S', g1, hq, g2, hw⟩
theorem DvE.take {τ : Type} {L : Int × τ → List Sl} (i : Nat) {F : Fn} (hF : FnTake F) {mu : ME} {du : Dm (Int × τ) Int} (h1 : DvE n WP L mu eI du) (hL : ∀ s, (L s)[i]? = some (.w (.loc n)) := by intro _; rfl) (hk : ∀ k k' t, L (k, t) = L (k', t) := by intros; rfl) :
    DvE n WP L (mCallF 2 F (mCons (mVar i) (mCons mu mNil))) eI (dBind du dTake) := fun S0 σ S s o Q hn hs hw hd => by
  obtain ⟨u, s1, o1, S1, g1, ⟨g2, g3, g4, g5⟩, g6, g7⟩ := h1 S0 σ S s o _ hn hs hw hd
  obtain ⟨d, o2, k1, k2, k3, k4⟩ := hF n S1 s1.1 u o1 (g6.atN hn) g7 g4 g2 g3
  have h0 := hs.w i _ (hL s)
  refine ⟨d, (s1.1 + 1, s1.2), o2, S1.set n o2, by simp [h0, g1, k1], g5 d k2 k3, ?_, k4⟩
  rw [hk (s1.1 + 1) s1.1]
  exact g6.setB hn o2
theorem DvE.bin {g : G2} {op : α → β → Option γ} {m1 m2 : ME} {d1 : Dm st α} {d2 : Dm st β} (hg : G2T g e f h op) (h1 : DvE n Wd L m1 e d1) (h2 : DvE n Wd L m2 f d2) : DvE n Wd L (mBin g m1 m2) h (dBind d1 fun a => dBind d2 fun b => dOpt (op a b)) := fun S0 σ S s o Q hn hs hw hd => by
  obtain ⟨a, s1, o1, S1, g1, g2, g3, g4⟩ := h1 S0 σ S s o _ hn hs hw hd
  obtain ⟨b, s2, o2, S2, k1, k2, k3, k4⟩ := h2 S0 σ S1 s1 o1 _ hn g3 g4 g2
  obtain ⟨c, hc, hq⟩ := k2
  exact ⟨c, s2, o2, S2, by simp [g1, k1, hg S2 a b c hc], hq, k3, k4⟩
theorem DvE.un {g : G1} {op : α → Option β} {m1 : ME} {d1 : Dm st α} (hg : G1T g e f op) (h1 : DvE n Wd L m1 e d1) : DvE n Wd L (mUn g m1) f (dBind d1 fun a => dOpt (op a)) := fun S0 σ S s o Q hn hs hw hd => by
  obtain ⟨a, s1, o1, S1, g1, ⟨c, hc, hq⟩, g3, g4⟩ := h1 S0 σ S s o _ hn hs hw hd
  exact ⟨c, s1, o1, S1, by simp [g1, hg S1 a c hc], hq, g3, g4⟩
theorem DvE.c1 {g : Sto → W → Option W} {op : α → Option β} {m : ME} {d1 : Dm st α} (hg : G1T g e f op) (h1 : DvE n Wd L m e d1) : DvE n Wd L (mCall (pure1 g) (mCons m mNil)) f (dBind d1 fun a => dOpt (op a)) := fun S0 σ S s o Q hn hs hw hd => by
  obtain ⟨a, s1, o1, S1, g1, ⟨c, hc, hq⟩, g3, g4⟩ := h1 S0 σ S s o _ hn hs hw hd
  exact ⟨c, s1, o1, S1, by simp [g1, hg S1 a c hc], hq, g3, g4⟩
theorem DvE.c2 {g : Sto → W → W → Option W} {op : α → β → Option γ} {m1 m2 : ME} {d1 : Dm st α} {d2 : Dm st β} (hg : G2T g e f h op) (h1 : DvE n Wd L m1 e d1) (h2 : DvE n Wd L m2 f d2) : DvE n Wd L (mCall (pure2 g) (mCons m1 (mCons m2 mNil))) h (dBind d1 fun a => dBind d2 fun b => dOpt (op a b)) := fun S0 σ S s o Q hn hs hw hd => by
  obtain ⟨a, s1, o1, S1, g1, g2, g3, g4⟩ := h1 S0 σ S s o _ hn hs hw hd
  obtain ⟨b, s2, o2, S2, k1, ⟨c, hc, hq⟩, k3, k4⟩ := h2 S0 σ S1 s1 o1 _ hn g3 g4 g2
  exact ⟨c, s2, o2, S2, by simp [g1, k1, hg S2 a b c hc], hq, k3, k4⟩
theorem DvE.map {m : ME} {d1 : Dm st α} (h1 : DvE n Wd L m e d1) (g : α → β) (hg : ∀ a, f (g a) = e a) : DvE n Wd L m f (dMap g d1) := fun S0 σ S s o Q hn hs hw hd => by
  obtain ⟨a, s1, o1, S1, g1, g2, g3, g4⟩ := h1 S0 σ S s o _ hn hs hw hd
  exact ⟨g a, s1, o1, S1, by rw [hg]; exact g1, g2, g3, g4⟩
theorem DvE.pair {m1 m2 : ME} {d1 : Dm st α} {d2 : Dm st β} (h1 : DvE n Wd L m1 e d1) (h2 : DvE n Wd L m2 f d2) : DvE n Wd L (mTup (mCons m1 (mCons m2 mNil))) (eP e f) (dBind d1 fun a => dBind d2 fun b => dOpt (some (a, b))) := fun S0 σ S s o Q hn hs hw hd => by
  obtain ⟨a, s1, o1, S1, g1, g2, g3, g4⟩ := h1 S0 σ S s o _ hn hs hw hd
  obtain ⟨b, s2, o2, S2, k1, ⟨c, hc, hq⟩, k3, k4⟩ := h2 S0 σ S1 s1 o1 _ hn g3 g4 g2
  cases hc
  have : fits 2 = true := by decide
  exact ⟨(a, b), s2, o2, S2, by simp [g1, k1, this], hq, k3, k4⟩
theorem DvE.trip {m1 m2 m3 : ME} {d1 : Dm st α} {d2 : Dm st β} {d3 : Dm st γ} (h1 : DvE n Wd L m1 e d1) (h2 : DvE n Wd L m2 f d2) (h3 : DvE n Wd L m3 h d3) : DvE n Wd L (mTup (mCons m1 (mCons m2 (mCons m3 mNil)))) (eP3 e f h) (dBind d1 fun a => dBind d2 fun b => dBind d3 fun c => dOpt (some (a, b, c))) := fun S0 σ S s o Q hn hs hw hd => by
  obtain ⟨a, s1, o1, S1, g1, g2, g3, g4⟩ := h1 S0 σ S s o _ hn hs hw hd
  obtain ⟨b, s2, o2, S2, k1, k2, k3, k4⟩ := h2 S0 σ S1 s1 o1 _ hn g3 g4 g2
  obtain ⟨c, s3, o3, S3, l1, ⟨x, hc, hq⟩, l3, l4⟩ := h3 S0 σ S2 s2 o2 _ hn k3 k4 k2
  cases hc
  have : fits 3 = true := by decide
  exact ⟨(a, b, c), s3, o3, S3, by simp [g1, k1, l1, this], hq, l3, l4⟩
theorem DvL.nil : DvL n Wd L mNil e (dOpt (some [])) := fun S0 σ S s o Q hn hs hw ⟨a, ha, hq⟩ => by
  cases ha
  exact ⟨[], s, o, S, rfl, hq, hs, hw⟩
theorem DvL.cons {m1 : ME} {m : MA} {d1 : Dm st α} {d2 : Dm st (List α)} (h1 : DvE n Wd L m1 e d1) (h2 : DvL n Wd L m e d2) : DvL n Wd L (mCons m1 m) e (dBind d1 fun a => dMap (fun as => a :: as) d2) := fun S0 σ S s o Q hn hs hw hd => by
  obtain ⟨a, s1, o1, S1, g1, g2, g3, g4⟩ := h1 S0 σ S s o _ hn hs hw hd
  obtain ⟨b, s2, o2, S2, k1, k2, k3, k4⟩ := h2 S0 σ S1 s1 o1 _ hn g3 g4 g2
  exact ⟨a :: b, s2, o2, S2, by simp [g1, k1], k2, k3, k4⟩
theorem DvE.vtup {m : MA} {d1 : Dm st (List α)} (h1 : DvL n Wd L m e d1) : DvE n Wd L (mTup m) (eV e) (dBind d1 fun a => dOpt (pFit a)) := fun S0 σ S s o Q hn hs hw hd => by
  obtain ⟨a, s1, o1, S1, g1, ⟨c, hc, hq⟩, g3, g4⟩ := h1 S0 σ S s o _ hn hs hw hd
  obtain ⟨rfl, hf, _⟩ := pFit_some hc
  exact ⟨c, s1, o1, S1, by simp [g1, asDs_map, hf], hq, g3, g4⟩
theorem DvE.lst {m : MA} {d1 : Dm st (List α)} (h1 : DvL n Wd L m e d1) : DvE n Wd L (mLst m) (eL e) (dBind d1 fun a => dOpt (pFit a)) := fun S0 σ S s o Q hn hs hw hd => by
  obtain ⟨a, s1, o1, S1, g1, ⟨c, hc, hq⟩, g3, g4⟩ := h1 S0 σ S s o _ hn hs hw hd
  obtain ⟨rfl, hf, _⟩ := pFit_some hc
  exact ⟨c, s1, o1, S1, by simp [g1, asDs_map, hf], hq, g3, g4⟩
theorem DvT.b {m1 : ME} {d1 : Dm st Bool} (h1 : DvE n Wd L m1 eB d1) : DvT n Wd L (mB m1) d1 := fun S0 σ S s o Q hn hs hw hd => by
  obtain ⟨a, s1, o1, S1, g1, g2, g3, g4⟩ := h1 S0 σ S s o _ hn hs hw hd
  exact ⟨a, s1, o1, S1, by simp [g1], g2, g3, g4⟩
theorem DvT.and {m1 m2 : MT} {d1 d2 : Dm st Bool} (h1 : DvT n Wd L m1 d1) (h2 : DvT n Wd L m2 d2) : DvT n Wd L (mAndT m1 m2) (dIf d1 d2 (dOpt (some false))) := fun S0 σ S s o Q hn hs hw hd => by
  obtain ⟨a, s1, o1, S1, g1, g2, g3, g4⟩ := h1 S0 σ S s o _ hn hs hw hd
  cases a with
  | true =>
    obtain ⟨b, s2, o2, S2, k1, k2, k3, k4⟩ := h2 S0 σ S1 s1 o1 Q hn g3 g4 (by simpa using g2)
    exact ⟨b, s2, o2, S2, by simp [g1, k1], k2, k3, k4⟩
  | false =>
    obtain ⟨c, hc, hq⟩ := (show ∃ a, some false = some a ∧ Q a s1 by simpa using g2)
    cases hc
    exact ⟨false, s1, o1, S1, by simp [g1], hq, g3, g4⟩
theorem DvT.or {m1 m2 : MT} {d1 d2 : Dm st Bool} (h1 : DvT n Wd L m1 d1) (h2 : DvT n Wd L m2 d2) : DvT n Wd L (mOrT m1 m2) (dIf d1 (dOpt (some true)) d2) := fun S0 σ S s o Q hn hs hw hd => by
  obtain ⟨a, s1, o1, S1, g1, g2, g3, g4⟩ := h1 S0 σ S s o _ hn hs hw hd
  cases a with
  | false =>
    obtain ⟨b, s2, o2, S2, k1, k2, k3, k4⟩ := h2 S0 σ S1 s1 o1 Q hn g3 g4 (by simpa using g2)
    exact ⟨b, s2, o2, S2, by simp [g1, k1], k2, k3, k4⟩
  | true =>
    obtain ⟨c, hc, hq⟩ := (show ∃ a, some true = some a ∧ Q a s1 by simpa using g2)
    cases hc
    exact ⟨true, s1, o1, S1, by simp [g1], hq, g3, g4⟩
theorem DvT.not {m1 : MT} {d1 : Dm st Bool} (h1 : DvT n Wd L m1 d1) : DvT n Wd L (mNotT m1) (dMap (fun c => !c) d1) := fun S0 σ S s o Q hn hs hw hd => by
  obtain ⟨a, s1, o1, S1, g1, g2, g3, g4⟩ := h1 S0 σ S s o _ hn hs hw hd
  exact ⟨!a, s1, o1, S1, by simp [g1], g2, g3, g4⟩
theorem DvE.and {m1 m2 : ME} {d1 d2 : Dm st Bool} (h1 : DvE n Wd L m1 eB d1) (h2 : DvE n Wd L m2 eB d2) : DvE n Wd L (mAnd m1 m2) eB (dIf d1 d2 (dOpt (some false))) := fun S0 σ S s o Q hn hs hw hd => by
  obtain ⟨a, s1, o1, S1, g1, g2, g3, g4⟩ := h1 S0 σ S s o _ hn hs hw hd
  cases a with
  | true =>
    obtain ⟨b, s2, o2, S2, k1, k2, k3, k4⟩ := h2 S0 σ S1 s1 o1 Q hn g3 g4 (by simpa using g2)
    exact ⟨b, s2, o2, S2, by simp [g1, k1], k2, k3, k4⟩
  | false =>
    obtain ⟨c, hc, hq⟩ := (show ∃ a, some false = some a ∧ Q a s1 by simpa using g2)
    cases hc
    exact ⟨false, s1, o1, S1, by simp [g1], hq, g3, g4⟩
theorem DvE.or {m1 m2 : ME} {d1 d2 : Dm st Bool} (h1 : DvE n Wd L m1 eB d1) (h2 : DvE n Wd L m2 eB d2) : DvE n Wd L (mOr m1 m2) eB (dIf d1 (dOpt (some true)) d2) := fun S0 σ S s o Q hn hs hw hd => by
  obtain ⟨a, s1, o1, S1, g1, g2, g3, g4⟩ := h1 S0 σ S s o _ hn hs hw hd
  cases a with
  | false =>
    obtain ⟨b, s2, o2, S2, k1, k2, k3, k4⟩ := h2 S0 σ S1 s1 o1 Q hn g3 g4 (by simpa using g2)
    exact ⟨b, s2, o2, S2, by simp [g1, k1], k2, k3, k4⟩
  | true =>
    obtain ⟨c, hc, hq⟩ := (show ∃ a, some true = some a ∧ Q a s1 by simpa using g2)
    cases hc
    exact ⟨true, s1, o1, S1, by simp [g1], hq, g3, g4⟩
theorem DvE.not {m1 : ME} {d1 : Dm st Bool} (h1 : DvE n Wd L m1 eB d1) : DvE n Wd L (mNot m1) eB (dMap (fun c => !c) d1) := fun S0 σ S s o Q hn hs hw hd => by
  obtain ⟨a, s1, o1, S1, g1, g2, g3, g4⟩ := h1 S0 σ S s o _ hn hs hw hd
  exact ⟨!a, s1, o1, S1, by simp [g1], g2, g3, g4⟩
theorem DvE.ite {t : MT} {m1 m2 : ME} {dt : Dm st Bool} {d1 d2 : Dm st α} (ht : DvT n Wd L t dt) (h1 : DvE n Wd L m1 e d1) (h2 : DvE n Wd L m2 e d2) : DvE n Wd L (mIf t m1 m2) e (dIf dt d1 d2) := fun S0 σ S s o Q hn hs hw hd => by
  obtain ⟨a, s1, o1, S1, g1, g2, g3, g4⟩ := ht S0 σ S s o _ hn hs hw hd
  cases a with
  | true =>
    obtain ⟨b, s2, o2, S2, k1, k2, k3, k4⟩ := h1 S0 σ S1 s1 o1 Q hn g3 g4 (by simpa using g2)
    exact ⟨b, s2, o2, S2, by simp [g1, k1], k2, k3, k4⟩
  | false =>
    obtain ⟨b, s2, o2, S2, k1, k2, k3, k4⟩ := h2 S0 σ S1 s1 o1 Q hn g3 g4 (by simpa using g2)
    exact ⟨b, s2, o2, S2, by simp [g1, k1], k2, k3, k4⟩
/-- repr(a) != repr(b): nothing is promised but for equal ones -/
theorem DvE.rep {m1 m2 : ME} {d1 d2 : Dm st α} (h1 : DvE n Wd L m1 e d1) (h2 : DvE n Wd L m2 e d2) : DvE n Wd L (mBin vNe (mCall (pure1 vRepr) (mCons m1 mNil)) (mCall (pure1 vRepr) (mCons m2 mNil))) eB (dBind d1 fun a => dBind d2 fun b => fun s Q => (a = b ∧ showOk (e a) = true) ∧ Q false s) := fun S0 σ S s o Q hn hs hw hd => by
  obtain ⟨a, s1, o1, S1, g1, g2, g3, g4⟩ := h1 S0 σ S s o _ hn hs hw hd
  obtain ⟨b, s2, o2, S2, k1, ⟨⟨rfl, k5⟩, k2⟩, k3, k4⟩ := h2 S0 σ S1 s1 o1 _ hn g3 g4 g2
  refine ⟨false, s2, o2, S2, ?_, k2, k3, k4⟩
  have r1 : ∀ S, vRepr S (.d (e a)) = some (.d (.str (PyData.shown (e a)))) := fun S => repr_d k5
  simp [g1, k1, r1, ne_str_same]
theorem DvE.repE {m1 m2 : ME} {d1 d2 : Dm st α} (h1 : DvE n Wd L m1 e d1) (h2 : DvE n Wd L m2 e d2) : DvE n Wd L (mBin vEq (mCall (pure1 vRepr) (mCons m1 mNil)) (mCall (pure1 vRepr) (mCons m2 mNil))) eB (dBind d1 fun a => dBind d2 fun b => fun s Q => (a = b ∧ showOk (e a) = true) ∧ Q true s) := fun S0 σ S s o Q hn hs hw hd => by
  obtain ⟨a, s1, o1, S1, g1, g2, g3, g4⟩ := h1 S0 σ S s o _ hn hs hw hd
  obtain ⟨b, s2, o2, S2, k1, ⟨⟨rfl, k5⟩, k2⟩, k3, k4⟩ := h2 S0 σ S1 s1 o1 _ hn g3 g4 g2
  refine ⟨true, s2, o2, S2, ?_, k2, k3, k4⟩
  have r1 : ∀ S, vRepr S (.d (e a)) = some (.d (.str (PyData.shown (e a)))) := fun S => repr_d k5
  simp [g1, k1, r1, eq_str_same]
/-! calls of defs that draw nothing, what is handed in may be drawn -/
theorem DvE.f1 {F : Fn} {q : α → Option ρ} {m : ME} {d1 : Dm st α} (hF : FnT1 F e er q) (h1 : DvE n Wd L m e d1) : DvE n Wd L (mCallF 1 F (mCons m mNil)) er (dBind d1 fun a => dOpt (q a)) := fun S0 σ S s o Q hn hs hw hd => by
  obtain ⟨a, s1, o1, S1, g1, ⟨c, hc, hq⟩, g3, g4⟩ := h1 S0 σ S s o _ hn hs hw hd
  exact ⟨c, s1, o1, S1, by simp [g1, hF S1 a c hc], hq, g3, g4⟩
theorem DvE.f2 {F : Fn} {q : α → β → Option ρ} {m1 m2 : ME} {d1 : Dm st α} {d2 : Dm st β} (hF : FnT2 F e f er q) (h1 : DvE n Wd L m1 e d1) (h2 : DvE n Wd L m2 f d2) : DvE n Wd L (mCallF 2 F (mCons m1 (mCons m2 mNil))) er (dBind d1 fun a => dBind d2 fun b => dOpt (q a b)) := fun S0 σ S s o Q hn hs hw hd => by
  obtain ⟨a, s1, o1, S1, g1, g2, g3, g4⟩ := h1 S0 σ S s o _ hn hs hw hd
  obtain ⟨b, s2, o2, S2, k1, ⟨c, hc, hq⟩, k3, k4⟩ := h2 S0 σ S1 s1 o1 _ hn g3 g4 g2
  exact ⟨c, s2, o2, S2, by simp [g1, k1, hF S2 a b c hc], hq, k3, k4⟩
theorem DvE.f3 {F : Fn} {q : α → β → γ → Option ρ} {m1 m2 m3 : ME} {d1 : Dm st α} {d2 : Dm st β} {d3 : Dm st γ} (hF : FnT3 F e f h er q) (h1 : DvE n Wd L m1 e d1) (h2 : DvE n Wd L m2 f d2) (h3 : DvE n Wd L m3 h d3) : DvE n Wd L (mCallF 3 F (mCons m1 (mCons m2 (mCons m3 mNil)))) er (dBind d1 fun a => dBind d2 fun b => dBind d3 fun c => dOpt (q a b c)) := fun S0 σ S s o Q hn hs hw hd => by
  obtain ⟨a, s1, o1, S1, g1, g2, g3, g4⟩ := h1 S0 σ S s o _ hn hs hw hd
  obtain ⟨b, s2, o2, S2, k1, k2, k3, k4⟩ := h2 S0 σ S1 s1 o1 _ hn g3 g4 g2
  obtain ⟨c, s3, o3, S3, l1, ⟨x, hc, hq⟩, l3, l4⟩ := h3 S0 σ S2 s2 o2 _ hn k3 k4 k2
  exact ⟨x, s3, o3, S3, by simp [g1, k1, l1, hF S3 a b c x hc], hq, l3, l4⟩
theorem DvI.r1 {m : ME} {d1 : Dm st Int} (h1 : DvE n Wd L m eI d1) : DvI n Wd L (iR1 (mCons m mNil)) eI (dBind d1 fun a => dOpt (pRange 0 a)) := fun S0 σ S s o Q hn hs hw hd => by
  obtain ⟨a, s1, o1, S1, g1, ⟨c, hc, hq⟩, g3, g4⟩ := h1 S0 σ S s o _ hn hs hw hd
  obtain ⟨_, q, rfl⟩ := pRange_some hc
  exact ⟨_, s1, o1, S1, by simp [g1, q, rangeD_I], hq, g3, g4⟩
theorem DvI.r2 {m1 m2 : ME} {d1 d2 : Dm st Int} (h1 : DvE n Wd L m1 eI d1) (h2 : DvE n Wd L m2 eI d2) : DvI n Wd L (iR2 (mCons m1 (mCons m2 mNil))) eI (dBind d1 fun a => dBind d2 fun b => dOpt (pRange a b)) := fun S0 σ S s o Q hn hs hw hd => by
  obtain ⟨a, s1, o1, S1, g1, g2, g3, g4⟩ := h1 S0 σ S s o _ hn hs hw hd
  obtain ⟨b, s2, o2, S2, k1, ⟨c, hc, hq⟩, k3, k4⟩ := h2 S0 σ S1 s1 o1 _ hn g3 g4 g2
  obtain ⟨q1, q2, rfl⟩ := pRange_some hc
  exact ⟨_, s2, o2, S2, by simp [g1, k1, q1, q2, rangeD_I], hq, k3, k4⟩
theorem DvI.l {m : ME} {d1 : Dm st (List α)} (h1 : DvE n Wd L m (eL e) d1) : DvI n Wd L (iL m) e d1 := fun S0 σ S s o Q hn hs hw hd => by
  obtain ⟨a, s1, o1, S1, g1, g2, g3, g4⟩ := h1 S0 σ S s o _ hn hs hw hd
  exact ⟨a, s1, o1, S1, by simp [g1], g2, g3, g4⟩
theorem DvI.sl {m : ME} {d1 : Dm st (List α)} (h1 : DvE n Wd L m (eL e) d1) : DvI n Wd L (iS m) e d1 := fun S0 σ S s o Q hn hs hw hd => by
  obtain ⟨a, s1, o1, S1, g1, g2, g3, g4⟩ := h1 S0 σ S s o _ hn hs hw hd
  exact ⟨a, s1, o1, S1, by simp [g1, asS], g2, g3, g4⟩
theorem DvI.sv {m : ME} {d1 : Dm st (List α)} (h1 : DvE n Wd L m (eV e) d1) : DvI n Wd L (iS m) e d1 := fun S0 σ S s o Q hn hs hw hd => by
  obtain ⟨a, s1, o1, S1, g1, g2, g3, g4⟩ := h1 S0 σ S s o _ hn hs hw hd
  exact ⟨a, s1, o1, S1, by simp [g1, asS], g2, g3, g4⟩
/-! comprehensions -/
theorem set_back {σ : Env} {i : Nat} {y : Option W} : ∃ z, (σ.set i y).set i z = σ := by
  by_cases hi : i < σ.length
  · exact ⟨σ[i], by rw [List.set_set, List.set_getElem_self]⟩
  · exact ⟨none, by rw [List.set_set, List.set_eq_of_length_le (by omega)]⟩
/-- a target, there and back -/
def TgB (g : MG) (e : Enc α) (bnd : List Sl → α → List Sl) (vs : List Nat) : Prop := ∀ (S0 : Sto) (L : List Sl) (σ : Env) (S : Sto), Sat S0 (wipeL L vs) σ S → ∀ a, ∃ σ1, g (.d (e a)) σ = some σ1 ∧ Sat S0 (bnd (wipeL L vs) a) σ1 S ∧ ∀ (S0' : Sto) (L2 : List Sl) (S' : Sto), Sat S0' (bnd (wipeL L2 vs) a) σ1 S' → Sat S0' (wipeL L2 vs) σ S'
theorem TgB.one (i : Nat) : TgB (gN i) e (fun L a => L.set i (.w (.d (e a)))) [i] := fun S0 L σ S s a => ⟨_, rfl, s.setW i _, fun S0' L2 S' s' => by
  obtain ⟨z, hz⟩ := set_back (σ := σ) (i := i) (y := some (.d (e a)))
  have := s'.setJ i z
  rw [hz, List.set_set] at this
  simpa [wipeL] using this⟩
theorem TgB.p2 (i j : Nat) : TgB (gTup 2 (gCons (gN i) (gCons (gN j) gNil))) (eP e f) (fun L a => (L.set i (.w (.d (e a.1)))).set j (.w (.d (f a.2)))) [i, j] := fun S0 L σ S s a => ⟨_, by simp, (s.setW i _).setW j _, fun S0' L2 S' s' => by
  obtain ⟨z, hz⟩ := set_back (σ := σ.set i (some (.d (e a.1)))) (i := j) (y := some (.d (f a.2)))
  obtain ⟨z2, hz2⟩ := set_back (σ := σ) (i := i) (y := some (.d (e a.1)))
  have h1 := s'.setJ j z
  rw [hz] at h1
  have h2 := h1.setJ i z2
  rw [hz2] at h2
  have e1 : (((((wipeL L2 [i, j]).set i (.w (.d (e a.1)))).set j (.w (.d (f a.2)))).set j .j).set i .j : List Sl) = wipeL L2 [i, j] := by
    simp only [wipeL, List.set_set]
    by_cases hij : i = j
    · subst hij; simp [List.set_set]
    · rw [List.set_comm _ _ (Ne.symm hij), List.set_set, List.set_comm _ _ hij, List.set_set]
  rw [e1] at h2
  exact h2⟩
theorem Sat.unwipe {S0 : Sto} {L : List Sl} {S : Sto} : ∀ {vs : List Nat} {σ : Env}, Sat S0 (wipeL L vs) (wipeD σ vs) S → Sat S0 (wipeL L vs) σ S := by
  intro vs
  have gen : ∀ (vs ws : List Nat) (σ : Env), (∀ v ∈ vs, v ∈ ws) → Sat S0 (wipeL L ws) (wipeD σ vs) S → Sat S0 (wipeL L ws) σ S := by
    intro vs
    induction vs with
    | nil => exact fun ws σ _ h => h
    | cons v vs ih =>
      intro ws σ hw h
      refine ih ws σ (fun u hu => hw u (by simp [hu])) ?_
      obtain ⟨z, hz⟩ := set_back (σ := wipeD σ vs) (i := v) (y := none)
      have := h.setJ v z
      simp only [wipeD] at this
      rw [hz] at this
      have e1 : (wipeL L ws).set v .j = wipeL L ws := by
        have hv := hw v (by simp)
        clear hw h this hz ih
        induction ws with
        | nil => simp at hv
        | cons w ws ih2 =>
          simp only [wipeL]
          by_cases hwv : w = v
          · subst hwv; rw [List.set_set]
          · rcases List.mem_cons.mp hv with q | q
            · exact absurd q.symm hwv
            · rw [List.set_comm _ _ hwv, ih2 q]
      rw [e1] at this
      exact this
  exact fun {σ} h => gen vs vs σ (fun v hv => hv) h
theorem dcomp_go {S0 : Sto} {g : MG} {t : MT} {m : ME} {bnd : List Sl → α → List Sl} {vs : List Nat} {dt : α → Dm st Bool} {dm : α → Dm st β} (hn : n < S0.length) (hg : TgB g e bnd vs)
    (ht : ∀ a, DvT n Wd (fun s => bnd (wipeL (L s) vs) a) t (dt a)) (hm : ∀ a, DvE n Wd (fun s => bnd (wipeL (L s) vs) a) m f (dm a)) : ∀ (xs : List α) (σ : Env) (S : Sto) (s : st) (o : O) (acc : List D) Q, Sat (S0.set n o) (wipeL (L s) vs) σ S → Wd s o → acc.length + xs.length ≤ 16777216 → dComp dt dm xs s Q →
    ∃ (ys : List β) (s' : st) (o' : O) (S' : Sto), compM g t m (xs.map e) σ S acc = some (acc ++ ys.map f, S') ∧ Q ys s' ∧ Sat (S0.set n o') (wipeL (L s') vs) σ S' ∧ Wd s' o'
  | [], σ, S, s, o, acc, Q, hs, hw, hl, hd => ⟨[], s, o, S, by simp, hd, hs, hw⟩
  | x :: xs, σ, S, s, o, acc, Q, hs, hw, hl, hd => by
    simp only [List.length_cons] at hl
    obtain ⟨σ1, g1, g2, g3⟩ := hg _ (L s) σ S hs x
    obtain ⟨c, s1, o1, S1, t1, t2, t3, t4⟩ := ht x S0 σ1 S s o _ hn g2 hw hd
    cases c with
    | true =>
      obtain ⟨y, s2, o2, S2, m1, m2, m3, m4⟩ := hm x S0 σ1 S1 s1 o1 _ hn t3 t4 (by simpa using t2)
      have hf : fits (acc.length + 1) = true := decide_eq_true (by omega)
      obtain ⟨ys, s', o', S', r1, r2, r3, r4⟩ := dcomp_go hn hg ht hm xs σ S2 s2 o2 (acc ++ [f y]) _ (g3 _ (L s2) S2 m3) m4 (by simp; omega) m2
      exact ⟨y :: ys, s', o', S', by simp [g1, t1, m1, hf, r1], r2, r3, r4⟩
    | false =>
      obtain ⟨ys, s', o', S', r1, r2, r3, r4⟩ := dcomp_go hn hg ht hm xs σ S1 s1 o1 acc Q (g3 _ (L s1) S1 t3) t4 (by omega) (by simpa using t2)
      exact ⟨ys, s', o', S', by simp [g1, t1, r1], r2, r3, r4⟩
theorem DvE.comp {mi : MI} {g : MG} {t : MT} {m : ME} {vs : List Nat} {bnd : List Sl → α → List Sl} {d1 : Dm st (List α)} {dt : α → Dm st Bool} {dm : α → Dm st β} (hi : DvI n Wd L mi e d1) (hg : TgB g e bnd vs) (ht : ∀ a, DvT n Wd (fun s => bnd (wipeL (L s) vs) a) t (dt a)) (hm : ∀ a, DvE n Wd (fun s => bnd (wipeL (L s) vs) a) m f (dm a))
    (hj : ∀ s, wipeL (L s) vs = L s := by intro _; rfl) : DvE n Wd L (mComp mi g t m vs) (eL f) (dBind d1 fun xs => dBind (dOpt (pFit xs)) fun xs => dComp dt dm xs) := fun S0 σ S s o Q hn hs hw hd => by
  obtain ⟨xs, s1, o1, S1, g1, ⟨xs', hx, hq⟩, g3, g4⟩ := hi S0 σ S s o _ hn hs hw hd
  obtain ⟨rfl, _, hl⟩ := pFit_some hx
  obtain ⟨ys, s', o', S', r1, r2, r3, r4⟩ := dcomp_go hn hg ht hm xs' (wipeD σ vs) S1 s1 o1 [] Q (g3.wipe vs) g4 (by simpa using hl) hq
  have r5 := r3.unwipe
  rw [hj] at r5
  exact ⟨ys, s', o', S', by simp [g1, r1], r2, r5, r4⟩
/-! ### statements -/
theorem DvN.asg (i : Nat) {m : ME} {d1 : Dm st α} (h1 : DvE n Wd L m e d1) : DvN n Wd L (mAsg i m) d1 (fun a s => (L s).set i (.w (.d (e a)))) := fun S0 σ S s o Q hn hs hw hd => by
  obtain ⟨a, s1, o1, S1, g1, g2, g3, g4⟩ := h1 S0 σ S s o _ hn hs hw hd
  exact ⟨a, s1, o1, _, S1, by simp [g1], g2, g3.setW i _, g4⟩
theorem DvN.par2 (i j : Nat) {m1 m2 : ME} {d1 : Dm st α} {d2 : Dm st β} (h1 : DvE n Wd L m1 e d1) (h2 : DvE n Wd L m2 f d2) : DvN n Wd L (mPar2 i j (mCons m1 (mCons m2 mNil))) (dBind d1 fun a => dBind d2 fun b => dOpt (some (a, b))) (fun r s => ((L s).set i (.w (.d (e r.1)))).set j (.w (.d (f r.2)))) := fun S0 σ S s o Q hn hs hw hd => by
  obtain ⟨a, s1, o1, S1, g1, g2, g3, g4⟩ := h1 S0 σ S s o _ hn hs hw hd
  obtain ⟨b, s2, o2, S2, k1, ⟨c, hc, hq⟩, k3, k4⟩ := h2 S0 σ S1 s1 o1 _ hn g3 g4 g2
  cases hc
  exact ⟨(a, b), s2, o2, _, S2, by simp [g1, k1], hq, (k3.setW i _).setW j _, k4⟩
theorem DvN.par3 (i j k : Nat) {m1 m2 m3 : ME} {d1 : Dm st α} {d2 : Dm st β} {d3 : Dm st γ} (h1 : DvE n Wd L m1 e d1) (h2 : DvE n Wd L m2 f d2) (h3 : DvE n Wd L m3 h d3) : DvN n Wd L (mPar3 i j k (mCons m1 (mCons m2 (mCons m3 mNil)))) (dBind d1 fun a => dBind d2 fun b => dBind d3 fun c => dOpt (some (a, b, c))) (fun r s => (((L s).set i (.w (.d (e r.1)))).set j (.w (.d (f r.2.1)))).set k (.w (.d (h r.2.2)))) := fun S0 σ S s o Q hn hs hw hd => by
  obtain ⟨a, s1, o1, S1, g1, g2, g3, g4⟩ := h1 S0 σ S s o _ hn hs hw hd
  obtain ⟨b, s2, o2, S2, k1, k2, k3, k4⟩ := h2 S0 σ S1 s1 o1 _ hn g3 g4 g2
  obtain ⟨c, s3, o3, S3, l1, ⟨x, hc, hq⟩, l3, l4⟩ := h3 S0 σ S2 s2 o2 _ hn k3 k4 k2
  cases hc
  exact ⟨(a, b, c), s3, o3, _, S3, by simp [g1, k1, l1], hq, ((l3.setW i _).setW j _).setW k _, l4⟩
theorem DvN.unp {g : MG} {m : ME} {d1 : Dm st α} {bnd : List Sl → α → List Sl} (h1 : DvE n Wd L m e d1) (hg : Tg g e bnd) : DvN n Wd L (mAsgG g m) d1 (fun a s => bnd (L s) a) := fun S0 σ S s o Q hn hs hw hd => by
  obtain ⟨a, s1, o1, S1, g1, g2, g3, g4⟩ := h1 S0 σ S s o _ hn hs hw hd
  obtain ⟨σ1, k1, k2⟩ := hg _ _ σ S1 g3 a
  exact ⟨a, s1, o1, σ1, S1, by simp [g1, k1], g2, k2, g4⟩
theorem DvN.expr {m : ME} {d1 : Dm st α} (h1 : DvE n Wd L m e d1) : DvN n Wd L (mExpr m) d1 (fun _ s => L s) := fun S0 σ S s o Q hn hs hw hd => by
  obtain ⟨a, s1, o1, S1, g1, g2, g3, g4⟩ := h1 S0 σ S s o _ hn hs hw hd
  exact ⟨a, s1, o1, σ, S1, by simp [g1], g2, g3, g4⟩
/-- xs.append(drawn), xs an own list -/
theorem DvN.app (i : Nat) {xs : List α} {m : ME} {d1 : Dm st α} (h1 : DvE n Wd L m e d1) (hL : ∀ s, (L s)[i]? = some (.m (.lst (xs.map e))) := by intro _; rfl) : DvN n Wd L (mExpr (mMeth isLoc gAppend (mVar i) (mCons m mNil))) (dBind d1 fun a => dOpt (pFit (xs ++ [a]))) (fun ys s => (L s).set i (.m (.lst (ys.map e)))) := fun S0 σ S s o Q hn hs hw hd => by
  obtain ⟨a, s1, o1, S1, g1, ⟨ys, hy, hq⟩, g3, g4⟩ := h1 S0 σ S s o _ hn hs hw hd
  obtain ⟨rfl, hf, _⟩ := pFit_some hy
  obtain ⟨k, h2, h3, h4⟩ := g3.write (hL s1)
  obtain ⟨k', h2', h3', _⟩ := hs.write (hL s)
  have hkk : k = k' := by rw [h2] at h2'; simpa using h2'
  subst hkk
  have hf' : fits (xs.length + 1) = true := by simpa using hf
  refine ⟨xs ++ [a], s1, o1, σ, S1.set k (.lst ((xs ++ [a]).map e)), ?_, hq, h4 _, g4⟩
  simp [h2, isLoc, h3, h3', g1, gAppend, hf']
theorem DvN.to {m : MS} {d : Dm st α} {L1 : α → st → List Sl} {L2 : β → st → List Sl} (h1 : DvN n Wd L m d L1) (g : α → β) (hl : ∀ a s, Le (L1 a s) (L2 (g a) s)) : DvN n Wd L m (dMap g d) L2 := fun S0 σ S s o Q hn hs hw hd => by
  obtain ⟨a, s1, o1, σ1, S1, g1, g2, g3, g4⟩ := h1 S0 σ S s o _ hn hs hw hd
  exact ⟨g a, s1, o1, σ1, S1, g1, g2, g3.weak (hl a s1), g4⟩
theorem DvN.seq {m1 m2 : MS} {d1 : Dm st α} {d2 : α → Dm st β} {L1 : α → st → List Sl} {L2 : β → st → List Sl} (h1 : DvN n Wd L m1 d1 L1) (h2 : ∀ a, DvN n Wd (L1 a) m2 (d2 a) L2) : DvN n Wd L (mSeq m1 m2) (dBind d1 d2) L2 := fun S0 σ S s o Q hn hs hw hd => by
  obtain ⟨a, s1, o1, σ1, S1, g1, g2, g3, g4⟩ := h1 S0 σ S s o _ hn hs hw hd
  obtain ⟨b, s2, o2, σ2, S2, k1, k2, k3, k4⟩ := h2 a S0 σ1 S1 s1 o1 Q hn g3 g4 g2
  exact ⟨b, s2, o2, σ2, S2, by simp [g1, k1], k2, k3, k4⟩
theorem DvN.ite {t : MT} {m1 m2 : MS} {dt : Dm st Bool} {d1 d2 : Dm st α} {L1 : α → st → List Sl} (ht : DvT n Wd L t dt) (h1 : DvN n Wd L m1 d1 L1) (h2 : DvN n Wd L m2 d2 L1) : DvN n Wd L (mIfS t m1 m2) (dIf dt d1 d2) L1 := fun S0 σ S s o Q hn hs hw hd => by
  obtain ⟨c, s1, o1, S1, g1, g2, g3, g4⟩ := ht S0 σ S s o _ hn hs hw hd
  cases c with
  | true =>
    obtain ⟨b, s2, o2, σ2, S2, k1, k2, k3, k4⟩ := h1 S0 σ S1 s1 o1 Q hn g3 g4 (by simpa using g2)
    exact ⟨b, s2, o2, σ2, S2, by simp [g1, k1], k2, k3, k4⟩
  | false =>
    obtain ⟨b, s2, o2, σ2, S2, k1, k2, k3, k4⟩ := h2 S0 σ S1 s1 o1 Q hn g3 g4 (by simpa using g2)
    exact ⟨b, s2, o2, σ2, S2, by simp [g1, k1], k2, k3, k4⟩
theorem DvF.ret {m : ME} {d1 : Dm st ρ} (h1 : DvE n Wd L m er d1) : DvF n Wd L (mRet m) er d1 := fun S0 σ S s o Q hn hs hw hd => by
  obtain ⟨a, s1, o1, S1, g1, g2, g3, g4⟩ := h1 S0 σ S s o _ hn hs hw hd
  have := g3.base
  rw [List.length_set] at this
  exact ⟨a, s1, o1, S1, by simp [g1], g2, this, g4⟩
theorem DvF.seqN {m1 m2 : MS} {d1 : Dm st α} {d2 : α → Dm st ρ} {L1 : α → st → List Sl} (h1 : DvN n Wd L m1 d1 L1) (h2 : ∀ a, DvF n Wd (L1 a) m2 er (d2 a)) : DvF n Wd L (mSeq m1 m2) er (dBind d1 d2) := fun S0 σ S s o Q hn hs hw hd => by
  obtain ⟨a, s1, o1, σ1, S1, g1, g2, g3, g4⟩ := h1 S0 σ S s o _ hn hs hw hd
  obtain ⟨b, s2, o2, S2, k1, k2, k3, k4⟩ := h2 a S0 σ1 S1 s1 o1 Q hn g3 g4 g2
  exact ⟨b, s2, o2, S2, by simp [g1, k1], k2, k3, k4⟩
theorem DvF.seqR {m1 m2 : MS} {d1 : Dm st (α ⊕ ρ)} {d2 : α → Dm st ρ} {L1 : α → st → List Sl} (h1 : DvR n Wd L m1 er d1 L1) (h2 : ∀ a, DvF n Wd (L1 a) m2 er (d2 a)) : DvF n Wd L (mSeq m1 m2) er (dSeqF d1 d2) := fun S0 σ S s o Q hn hs hw hd => by
  rcases h1 S0 σ S s o _ hn hs hw hd with ⟨a, s1, o1, σ1, S1, g1, g2, g3, g4⟩ | ⟨r, s1, o1, S1, g1, g2, g3, g4⟩
  · obtain ⟨b, s2, o2, S2, k1, k2, k3, k4⟩ := h2 a S0 σ1 S1 s1 o1 Q hn g3 g4 g2
    exact ⟨b, s2, o2, S2, by simp [g1, k1], k2, k3, k4⟩
  · exact ⟨r, s1, o1, S1, by simp [g1], g2, g3, g4⟩
theorem DvF.ite {t : MT} {m1 m2 : MS} {dt : Dm st Bool} {d1 d2 : Dm st ρ} (ht : DvT n Wd L t dt) (h1 : DvF n Wd L m1 er d1) (h2 : DvF n Wd L m2 er d2) : DvF n Wd L (mIfS t m1 m2) er (dIf dt d1 d2) := fun S0 σ S s o Q hn hs hw hd => by
  obtain ⟨c, s1, o1, S1, g1, g2, g3, g4⟩ := ht S0 σ S s o _ hn hs hw hd
  cases c with
  | true =>
    obtain ⟨b, s2, o2, S2, k1, k2, k3, k4⟩ := h1 S0 σ S1 s1 o1 Q hn g3 g4 (by simpa using g2)
    exact ⟨b, s2, o2, S2, by simp [g1, k1], k2, k3, k4⟩
  | false =>
    obtain ⟨b, s2, o2, S2, k1, k2, k3, k4⟩ := h2 S0 σ S1 s1 o1 Q hn g3 g4 (by simpa using g2)
    exact ⟨b, s2, o2, S2, by simp [g1, k1], k2, k3, k4⟩
theorem DvF.guard {t : MT} {m1 m2 : MS} {dt : Dm st Bool} {d1 d2 : Dm st ρ} (ht : DvT n Wd L t dt) (h1 : DvF n Wd L m1 er d1) (h2 : DvF n Wd L m2 er d2) : DvF n Wd L (mSeq (mIfS t m1 mSkip) m2) er (dIf dt d1 d2) := fun S0 σ S s o Q hn hs hw hd => by
  obtain ⟨c, s1, o1, S1, g1, g2, g3, g4⟩ := ht S0 σ S s o _ hn hs hw hd
  cases c with
  | true =>
    obtain ⟨b, s2, o2, S2, k1, k2, k3, k4⟩ := h1 S0 σ S1 s1 o1 Q hn g3 g4 (by simpa using g2)
    exact ⟨b, s2, o2, S2, by simp [g1, k1], k2, k3, k4⟩
  | false =>
    obtain ⟨b, s2, o2, S2, k1, k2, k3, k4⟩ := h2 S0 σ S1 s1 o1 Q hn g3 g4 (by simpa using g2)
    exact ⟨b, s2, o2, S2, by simp [g1, k1], k2, k3, k4⟩
theorem DvR.ofF {m : MS} {d : Dm st ρ} {L1 : α → st → List Sl} (h1 : DvF n Wd L m er d) : DvR n Wd L m er (dMap Sum.inr d) L1 := fun S0 σ S s o Q hn hs hw hd => .inr (h1 S0 σ S s o _ hn hs hw hd)
theorem DvR.ofN {m : MS} {d : Dm st α} {L1 : α → st → List Sl} (h1 : DvN n Wd L m d L1) : DvR n Wd L m er (dMap Sum.inl d) L1 := fun S0 σ S s o Q hn hs hw hd => .inl (h1 S0 σ S s o _ hn hs hw hd)
theorem DvR.ite {t : MT} {m1 m2 : MS} {dt : Dm st Bool} {d1 d2 : Dm st (α ⊕ ρ)} {L1 : α → st → List Sl} (ht : DvT n Wd L t dt) (h1 : DvR n Wd L m1 er d1 L1) (h2 : DvR n Wd L m2 er d2 L1) : DvR n Wd L (mIfS t m1 m2) er (dIf dt d1 d2) L1 := fun S0 σ S s o Q hn hs hw hd => by
  obtain ⟨c, s1, o1, S1, g1, g2, g3, g4⟩ := ht S0 σ S s o _ hn hs hw hd
  cases c with
  | true => exact (h1 S0 σ S1 s1 o1 Q hn g3 g4 (by simpa using g2)).imp (fun ⟨b, s2, o2, σ2, S2, k1, k⟩ => ⟨b, s2, o2, σ2, S2, by simp [g1, k1], k⟩) fun ⟨b, s2, o2, S2, k1, k⟩ => ⟨b, s2, o2, S2, by simp [g1, k1], k⟩
  | false => exact (h2 S0 σ S1 s1 o1 Q hn g3 g4 (by simpa using g2)).imp (fun ⟨b, s2, o2, σ2, S2, k1, k⟩ => ⟨b, s2, o2, σ2, S2, by simp [g1, k1], k⟩) fun ⟨b, s2, o2, S2, k1, k⟩ => ⟨b, s2, o2, S2, by simp [g1, k1], k⟩
theorem DvR.guard {t : MT} {m1 m2 : MS} {dt : Dm st Bool} {d1 : Dm st ρ} {d2 : Dm st (α ⊕ ρ)} {L1 : α → st → List Sl} (ht : DvT n Wd L t dt) (h1 : DvF n Wd L m1 er d1) (h2 : DvR n Wd L m2 er d2 L1) : DvR n Wd L (mSeq (mIfS t m1 mSkip) m2) er (dIf dt (dMap Sum.inr d1) d2) L1 := fun S0 σ S s o Q hn hs hw hd => by
  obtain ⟨c, s1, o1, S1, g1, g2, g3, g4⟩ := ht S0 σ S s o _ hn hs hw hd
  cases c with
  | true =>
    obtain ⟨b, s2, o2, S2, k1, k⟩ := h1 S0 σ S1 s1 o1 _ hn g3 g4 (by simpa using g2)
    exact .inr ⟨b, s2, o2, S2, by simp [g1, k1], k⟩
  | false => exact (h2 S0 σ S1 s1 o1 Q hn g3 g4 (by simpa using g2)).imp (fun ⟨b, s2, o2, σ2, S2, k1, k⟩ => ⟨b, s2, o2, σ2, S2, by simp [g1, k1], k⟩) fun ⟨b, s2, o2, S2, k1, k⟩ => ⟨b, s2, o2, S2, by simp [g1, k1], k⟩
theorem DvR.seqN {m1 m2 : MS} {d1 : Dm st α} {d2 : α → Dm st (β ⊕ ρ)} {L1 : α → st → List Sl} {L2 : β → st → List Sl} (h1 : DvN n Wd L m1 d1 L1) (h2 : ∀ a, DvR n Wd (L1 a) m2 er (d2 a) L2) : DvR n Wd L (mSeq m1 m2) er (dBind d1 d2) L2 := fun S0 σ S s o Q hn hs hw hd => by
  obtain ⟨a, s1, o1, σ1, S1, g1, g2, g3, g4⟩ := h1 S0 σ S s o _ hn hs hw hd
  exact (h2 a S0 σ1 S1 s1 o1 Q hn g3 g4 g2).imp (fun ⟨b, s2, o2, σ2, S2, k1, k⟩ => ⟨b, s2, o2, σ2, S2, by simp [g1, k1], k⟩) fun ⟨b, s2, o2, S2, k1, k⟩ => ⟨b, s2, o2, S2, by simp [g1, k1], k⟩
theorem DvR.seqR {m1 m2 : MS} {d1 : Dm st (α ⊕ ρ)} {d2 : α → Dm st (β ⊕ ρ)} {L1 : α → st → List Sl} {L2 : β → st → List Sl} (h1 : DvR n Wd L m1 er d1 L1) (h2 : ∀ a, DvR n Wd (L1 a) m2 er (d2 a) L2) : DvR n Wd L (mSeq m1 m2) er (dSeqR d1 d2) L2 := fun S0 σ S s o Q hn hs hw hd => by
  rcases h1 S0 σ S s o _ hn hs hw hd with ⟨a, s1, o1, σ1, S1, g1, g2, g3, g4⟩ | ⟨r, s1, o1, S1, g1, g2, g3, g4⟩
  · exact (h2 a S0 σ1 S1 s1 o1 Q hn g3 g4 g2).imp (fun ⟨b, s2, o2, σ2, S2, k1, k⟩ => ⟨b, s2, o2, σ2, S2, by simp [g1, k1], k⟩) fun ⟨b, s2, o2, S2, k1, k⟩ => ⟨b, s2, o2, S2, by simp [g1, k1], k⟩
  · exact .inr ⟨r, s1, o1, S1, by simp [g1], g2, g3, g4⟩
/-! ### loops -/
theorem dfor_go {S0 : Sto} {g : MG} {b : MS} {bnd : List Sl → β → List Sl} {LB : α → st → List Sl} {db : α → β → Dm st α} (hn : n < S0.length) (hg : Tg g f bnd) (hb : ∀ a x, DvN n Wd (fun s => bnd (LB a s) x) b (db a x) LB) : ∀ (xs : List β) (a : α) (σ : Env) (S : Sto) (s : st) (o : O) Q, Sat (S0.set n o) (LB a s) σ S → Wd s o → dFor db xs a s Q →
    ∃ a' s' o' σ' S', forM g b (xs.map f) σ S = some (.nx σ' S') ∧ Q a' s' ∧ Sat (S0.set n o') (LB a' s') σ' S' ∧ Wd s' o'
  | [], a, σ, S, s, o, Q, hs, hw, hd => ⟨a, s, o, σ, S, rfl, hd, hs, hw⟩
  | x :: xs, a, σ, S, s, o, Q, hs, hw, hd => by
    obtain ⟨σ1, g1, g2⟩ := hg _ _ σ S hs x
    obtain ⟨a1, s1, o1, σ2, S2, k1, k2, k3, k4⟩ := hb a x S0 σ1 S s o _ hn g2 hw hd
    obtain ⟨a', s', o', σ', S', r1, r⟩ := dfor_go hn hg hb xs a1 σ2 S2 s1 o1 Q k3 k4 k2
    exact ⟨a', s', o', σ', S', by simp [g1, k1, r1], r⟩
theorem DvN.for {mi : MI} {g : MG} {b : MS} {bnd : List Sl → β → List Sl} (LB : α → st → List Sl) (a0 : α) {d1 : Dm st (List β)} {db : α → β → Dm st α} (hi : DvI n Wd L mi f d1) (hl : ∀ s, Le (L s) (LB a0 s)) (hg : Tg g f bnd) (hb : ∀ a x, DvN n Wd (fun s => bnd (LB a s) x) b (db a x) LB) :
    DvN n Wd L (mFor mi g b) (dBind d1 fun xs => dFor db xs a0) LB := fun S0 σ S s o Q hn hs hw hd => by
  obtain ⟨xs, s1, o1, S1, g1, g2, g3, g4⟩ := hi S0 σ S s o _ hn hs hw hd
  obtain ⟨a', s', o', σ', S', r1, r⟩ := dfor_go hn hg hb xs a0 σ S1 s1 o1 Q (g3.weak (hl s1)) g4 g2
  exact ⟨a', s', o', σ', S', by simp [g1, r1], r⟩
theorem dforR_go {S0 : Sto} {g : MG} {b : MS} {bnd : List Sl → β → List Sl} {LB : α → st → List Sl} {db : α → β → Dm st (α ⊕ ρ)} (hn : n < S0.length) (hg : Tg g f bnd) (hb : ∀ a x, DvR n Wd (fun s => bnd (LB a s) x) b er (db a x) LB) : ∀ (xs : List β) (a : α) (σ : Env) (S : Sto) (s : st) (o : O) Q, Sat (S0.set n o) (LB a s) σ S → Wd s o → dForR db xs a s Q →
    (∃ a' s' o' σ' S', forM g b (xs.map f) σ S = some (.nx σ' S') ∧ Q (.inl a') s' ∧ Sat (S0.set n o') (LB a' s') σ' S' ∧ Wd s' o') ∨ ∃ r s' o' S', forM g b (xs.map f) σ S = some (.rt (.d (er r)) S') ∧ Q (.inr r) s' ∧ S'.take S0.length = S0.set n o' ∧ Wd s' o'
  | [], a, σ, S, s, o, Q, hs, hw, hd => .inl ⟨a, s, o, σ, S, rfl, hd, hs, hw⟩
  | x :: xs, a, σ, S, s, o, Q, hs, hw, hd => by
    obtain ⟨σ1, g1, g2⟩ := hg _ _ σ S hs x
    rcases hb a x S0 σ1 S s o _ hn g2 hw hd with ⟨a1, s1, o1, σ2, S2, k1, k2, k3, k4⟩ | ⟨r, s1, o1, S2, k1, k2, k3, k4⟩
    · exact (dforR_go hn hg hb xs a1 σ2 S2 s1 o1 Q k3 k4 k2).imp (fun ⟨b, s2, o2, σ2, S2, l1, l⟩ => ⟨b, s2, o2, σ2, S2, by simp [g1, k1, l1], l⟩) fun ⟨b, s2, o2, S2, l1, l⟩ => ⟨b, s2, o2, S2, by simp [g1, k1, l1], l⟩
    · exact .inr ⟨r, s1, o1, S2, by simp [g1, k1], k2, k3, k4⟩
theorem DvR.for {mi : MI} {g : MG} {b : MS} {bnd : List Sl → β → List Sl} (LB : α → st → List Sl) (a0 : α) {d1 : Dm st (List β)} {db : α → β → Dm st (α ⊕ ρ)} (hi : DvI n Wd L mi f d1) (hl : ∀ s, Le (L s) (LB a0 s)) (hg : Tg g f bnd) (hb : ∀ a x, DvR n Wd (fun s => bnd (LB a s) x) b er (db a x) LB) :
    DvR n Wd L (mFor mi g b) er (dBind d1 fun xs => dForR db xs a0) LB := fun S0 σ S s o Q hn hs hw hd => by
  obtain ⟨xs, s1, o1, S1, g1, g2, g3, g4⟩ := hi S0 σ S s o _ hn hs hw hd
  exact (dforR_go hn hg hb xs a0 σ S1 s1 o1 Q (g3.weak (hl s1)) g4 g2).imp (fun ⟨b, s2, o2, σ2, S2, l1, l⟩ => ⟨b, s2, o2, σ2, S2, by simp [g1, l1], l⟩) fun ⟨b, s2, o2, S2, l1, l⟩ => ⟨b, s2, o2, S2, by simp [g1, l1], l⟩
/-! ### defs that draw -/
theorem sat_startW (S : Sto) (n : Nat) (ws : List W) : Sat S (ws.map Sl.w ++ List.replicate (n - ws.length) .j) (ws.map some ++ List.replicate (n - ws.length) none) S := by
  refine ⟨by simp, by simp, fun i x hx => ?_, fun _ => 0, fun i o ho => ?_, fun i j o o' h1 => ?_⟩
  · by_cases hi : i < ws.length
    · rw [List.getElem?_append_left (by simpa using hi)] at hx ⊢
      rw [List.getElem?_map] at hx ⊢
      cases h : ws[i]? with
      | none => rw [h] at hx; cases hx
      | some d => rw [h] at hx; cases hx; rfl
    · rw [List.getElem?_append_right (by simpa using hi), List.getElem?_replicate] at hx
      split at hx <;> cases hx
  · exfalso
    by_cases hi : i < ws.length
    · rw [List.getElem?_append_left (by simpa using hi), List.getElem?_map] at ho
      cases h : ws[i]? with
      | none => rw [h] at ho; cases ho
      | some d => rw [h] at ho; cases ho
    · rw [List.getElem?_append_right (by simpa using hi), List.getElem?_replicate] at ho
      split at ho <;> cases ho
  · exfalso
    by_cases hi : i < ws.length
    · rw [List.getElem?_append_left (by simpa using hi), List.getElem?_map] at h1
      cases h : ws[i]? with
      | none => rw [h] at h1; cases h1
      | some d => rw [h] at h1; cases h1
    · rw [List.getElem?_append_right (by simpa using hi), List.getElem?_replicate] at h1
      split at h1 <;> cases h1
theorem wp_refs {τ : Type} : ∀ (s : Int × τ) o, WP s o → o.refs = [] := fun s o ⟨_, _, _, e, _⟩ => by subst e; rfl
theorem fn_dr {N : Nat} {b : MS} {d : Dm st ρ} (ws : Nat → List W) (h1 : ∀ n, DvF n Wd (fun _ => (ws n).map Sl.w ++ List.replicate (N - (ws n).length) .j) b er d) (hW : ∀ s o, Wd s o → o.refs = [] := by first | exact wp_refs | (intro s o e; cases e; rfl)) : DrF Wd (fnD N b) ws er d := fun S n s o Q hS hw hd => by
  have hn : n < S.length := (List.getElem?_eq_some_iff.mp hS).1
  have hset : S.set n o = S := set_same hS
  obtain ⟨r, s', o', S', g1, g2, g3, g4⟩ := h1 n S _ S s o Q hn (by rw [hset]; exact sat_startW S N (ws n)) hw hd
  refine ⟨r, s', o', ?_, g2, g4⟩
  unfold fnD
  rw [g1]
  have g3' : S'.take S.length = S.set n o' := g3
  simp [g3', trimOk_set g3' (hW s' o' g4)]
/-- .. called: the first of what is handed in is what it draws from -/
theorem DvE.d0 (i : Nat) {F : Fn} {d : Dm st ρ} (hF : DrF Wd F (fun n => [.loc n]) er d) (hL : ∀ s, (L s)[i]? = some (.w (.loc n)) := by intro _; rfl) (hk : ∀ s s', L s = L s' := by intros; rfl) : DvE n Wd L (mCallF 1 F (mCons (mVar i) mNil)) er d := fun S0 σ S s o Q hn hs hw hd => by
  obtain ⟨r, s', o', g1, g2, g3⟩ := hF S n s o Q (hs.atN hn) hw hd
  refine ⟨r, s', o', S.set n o', by simp [hs.w i _ (hL s), g1], g2, ?_, g3⟩
  rw [hk s' s]
  exact hs.setB hn o'
theorem DvE.d1 (i : Nat) {F : Fn} {d : α → Dm st ρ} {m : ME} {d1 : Dm st α} (hF : ∀ a, DrF Wd F (fun n => [.loc n, .d (e a)]) er (d a)) (h1 : DvE n Wd L m e d1) (hL : ∀ s, (L s)[i]? = some (.w (.loc n)) := by intro _; rfl) (hk : ∀ s s', L s = L s' := by intros; rfl) : DvE n Wd L (mCallF 2 F (mCons (mVar i) (mCons m mNil))) er (dBind d1 d) := fun S0 σ S s o Q hn hs hw hd => by
  obtain ⟨a, s1, o1, S1, k1, k2, k3, k4⟩ := h1 S0 σ S s o _ hn hs hw hd
  obtain ⟨r, s', o', g1, g2, g3⟩ := hF a S1 n s1 o1 Q (k3.atN hn) k4 k2
  refine ⟨r, s', o', S1.set n o', by simp [hs.w i _ (hL s), k1, g1], g2, ?_, g3⟩
  rw [hk s' s1]
  exact k3.setB hn o'
theorem DvE.d2 (i : Nat) {F : Fn} {d : α → β → Dm st ρ} {m1 m2 : ME} {d1 : Dm st α} {d2 : Dm st β} (hF : ∀ a b, DrF Wd F (fun n => [.loc n, .d (e a), .d (f b)]) er (d a b)) (h1 : DvE n Wd L m1 e d1) (h2 : DvE n Wd L m2 f d2) (hL : ∀ s, (L s)[i]? = some (.w (.loc n)) := by intro _; rfl) (hk : ∀ s s', L s = L s' := by intros; rfl) : DvE n Wd L (mCallF 3 F (mCons (mVar i) (mCons m1 (mCons m2 mNil)))) er (dBind d1 fun a => dBind d2 fun b => d a b) := fun S0 σ S s o Q hn hs hw hd => by
  obtain ⟨a, s1, o1, S1, k1, k2, k3, k4⟩ := h1 S0 σ S s o _ hn hs hw hd
  obtain ⟨b, s2, o2, S2, l1, l2, l3, l4⟩ := h2 S0 σ S1 s1 o1 _ hn k3 k4 k2
  obtain ⟨r, s', o', g1, g2, g3⟩ := hF a b S2 n s2 o2 Q (l3.atN hn) l4 l2
  refine ⟨r, s', o', S2.set n o', by simp [hs.w i _ (hL s), k1, l1, g1], g2, ?_, g3⟩
  rw [hk s' s2]
  exact l3.setB hn o'
end
end DL

set_option Elab.async false
set_option linter.all false
set_option maxRecDepth 100000
set_option autoImplicit false
/-! The typed layer: sorted, sets, calls by keyword, dicts that are handed on. -/
noncomputable section
namespace DL
open PySem PySem.Spec PyProof.Rows L2
/-! ### sorted -/
section
variable {α : Type}
def insS (le : α → α → Bool) (x : α) : List α → List α
  | [] => [x]
  | y :: r => if le x y = true then x :: y :: r else y :: insS le x r
def isS (le : α → α → Bool) : List α → List α
  | [] => []
  | x :: xs => insS le x (isS le xs)
theorem insS_perm (le : α → α → Bool) (x : α) : ∀ r : List α, (insS le x r).Perm (x :: r)
  | [] => .refl _
  | y :: r => by
    unfold insS
    split
    · exact .refl _
    · exact ((insS_perm le x r).cons y).trans (.swap x y r)
theorem isS_perm (le : α → α → Bool) : ∀ xs : List α, (isS le xs).Perm xs
  | [] => .refl _
  | x :: xs => (insS_perm le x _).trans ((isS_perm le xs).cons x)
structure OrdOk (le : α → α → Bool) : Prop where
  tot : ∀ a b, (le a b || le b a) = true
  tr : ∀ a b c, le a b = true → le b c = true → le a c = true
  asy : ∀ a b, le a b = true → le b a = true → a = b
theorem insS_sorted {le : α → α → Bool} (O : OrdOk le) (x : α) : ∀ {r : List α}, r.Pairwise (fun a b => le a b = true) → (insS le x r).Pairwise (fun a b => le a b = true)
  | [], _ => by simp [insS]
  | y :: r, h => by
    unfold insS
    obtain ⟨h1, h2⟩ := List.pairwise_cons.mp h
    split
    · rename_i q
      exact List.pairwise_cons.mpr ⟨fun z hz => by
        rcases List.mem_cons.mp hz with rfl | hz
        · exact q
        · exact O.tr _ _ _ q (h1 z hz), h⟩
    · rename_i q
      refine List.pairwise_cons.mpr ⟨fun z hz => ?_, insS_sorted O x h2⟩
      rcases List.mem_cons.mp ((insS_perm le x r).mem_iff.mp hz) with rfl | hz
      · have := O.tot z y
        rw [Bool.or_eq_true] at this
        exact this.resolve_left q
      · exact h1 z hz
theorem isS_sorted {le : α → α → Bool} (O : OrdOk le) : ∀ xs : List α, (isS le xs).Pairwise (fun a b => le a b = true)
  | [] => .nil
  | x :: xs => insS_sorted O x (isS_sorted O xs)
theorem isS_merge {le : α → α → Bool} (O : OrdOk le) (xs : List α) : xs.mergeSort le = isS le xs :=
  ((List.mergeSort_perm xs le).trans (isS_perm le xs).symm).eq_of_pairwise (le := fun a b => le a b = true) (fun a b _ _ h1 h2 => O.asy a b h1 h2) (List.pairwise_mergeSort O.tr O.tot xs) (isS_sorted O xs)
theorem sortD_map {e : Enc α} {le : α → α → Bool} (O : OrdOk le) (h : ∀ a b, PySem.W.dataLe false id (e a) (e b) = le a b) (xs : List α) : sortD (xs.map e) = (isS le xs).map e := by
  rw [← isS_merge O]
  exact (PySem.W.sort_maps (r := le) (s := PySem.W.dataLe false id) e fun a _ b _ => (h a b).symm).symm
end
def leI (a b : Int) : Bool := decide (a ≤ b)
theorem ordI : OrdOk leI := ⟨fun a b => by unfold leI; simp; omega, fun a b c => by unfold leI; simp; omega, fun a b => by unfold leI; simp; omega⟩
def leP (p q : Int × Int) : Bool := decide (p.1 < q.1 ∨ (p.1 = q.1 ∧ p.2 ≤ q.2))
theorem ordP : OrdOk leP := ⟨fun a b => by unfold leP; simp; omega, fun a b c => by unfold leP; simp; omega, fun a b => by
  obtain ⟨a1, a2⟩ := a
  obtain ⟨b1, b2⟩ := b
  unfold leP; simp; omega⟩
def leV (xs ys : List Int) : Bool := decide (¬ ys < xs)
theorem ordV : OrdOk leV := ⟨fun a b => by
  unfold leV
  rcases ints_lt_tri a b with h | h | h
  · have : ¬ b < a := fun z => List.lt_irrefl a (List.lt_trans h z)
    simp [this]
  · subst h; simp
  · have : ¬ a < b := fun z => List.lt_irrefl a (List.lt_trans z h)
    simp [this], fun a b c h1 h2 => by
  unfold leV at *
  simp only [decide_eq_true_eq] at *
  intro z
  rcases ints_lt_tri a b with h | h | h
  · exact h2 (List.lt_trans z h)
  · subst h; exact h2 z
  · exact h1 h, fun a b h1 h2 => by
  unfold leV at *
  simp only [decide_eq_true_eq] at *
  rcases ints_lt_tri a b with h | h | h
  · exact absurd h h2
  · exact h
  · exact absurd h h1⟩
theorem leD_I (a b : Int) : PySem.W.dataLe false id (eI a) (eI b) = leI a b := congrFun (congrFun (PySem.W.dataLe_int (fun n : Int => n)) a) b
theorem leD_P (a b : Int × Int) : PySem.W.dataLe false id (eP eI eI a) (eP eI eI b) = leP a b := congrFun (congrFun (PySem.W.dataLe_ii (fun p : Int × Int => p.1) (fun p => p.2)) a) b
theorem leD_V (a b : List Int) : PySem.W.dataLe false id (eV eI a) (eV eI b) = leV a b := by
  show (!PySem.W.dataLt (.tuple (b.map eI)) (.tuple (a.map eI))) = _
  rw [PySem.W.dataLt_tuple]
  have := PySem.W.dataLt_ints b a
  unfold PySem.W.rowLt at this
  rw [show (b.map eI) = b.map PyData.int from rfl, show (a.map eI) = a.map PyData.int from rfl, this]
  unfold leV
  by_cases h : b < a
  · simp only [h, decide_true, not_true_eq_false, decide_false, Bool.not_true]
  · simp only [h, decide_false, not_false_eq_true, decide_true, Bool.not_false]
theorem dep_le0 : ∀ {xs : List Int}, PyData.depthAll (xs.map eI) ≤ 0 := fun {xs} => depAll_map EqE.int xs
theorem sortOk_I (xs : List Int) : sortOk (xs.map eI) = true := says_true ⟨PySem.W.AllAlike.of fun b b' => by simp [PySem.W.alike], .inl (PySem.W.Sortable.others (enc := eI) fun b => ⟨(fun z => by cases z), (fun xs z => by cases z)⟩), fun d hd => by
  obtain ⟨x, _, rfl⟩ := List.mem_map.mp hd
  simp [PyData.depth]⟩
theorem sortOk_P (xs : List (Int × Int)) : sortOk (xs.map (eP eI eI)) = true := says_true ⟨PySem.W.AllAlike.of fun b b' => by simp [PySem.W.alike, PySem.W.alikeAll], .inl (PySem.W.Sortable.tuples fun b => ⟨_, _, rfl⟩), fun d hd => by
  obtain ⟨x, _, rfl⟩ := List.mem_map.mp hd
  simp [PyData.depth, PyData.depthAll]⟩
theorem sortOk_V (xs : List (List Int)) : sortOk (xs.map (eV eI)) = true := by
  refine says_true ⟨PySem.W.AllAlike.of fun b b' => by simp only [PySem.W.alike]; exact PySem.W.alike_ints b b', ?_, fun d hd => ?_⟩
  · by_cases h : [] ∈ xs
    · refine .inr ⟨fun d hd => ?_, List.mem_map.mpr ⟨[], h, rfl⟩⟩
      obtain ⟨x, _, rfl⟩ := List.mem_map.mp hd
      exact ⟨_, rfl⟩
    · refine .inl (.inl fun d hd => ?_)
      obtain ⟨x, hx, rfl⟩ := List.mem_map.mp hd
      cases x with
      | nil => exact absurd hx h
      | cons a r => exact ⟨_, _, rfl⟩
  · obtain ⟨x, _, rfl⟩ := List.mem_map.mp hd
    have := dep_le0 (xs := x)
    simp only [PyData.depth]; omega
theorem keysOf_d (d : D) : keysOf (.d d) = none := rfl
def pSortI (xs : List Int) : Option (List Int) := some (isS leI xs)
def pSortP (xs : List (Int × Int)) : Option (List (Int × Int)) := some (isS leP xs)
def pSortV (xs : List (List Int)) : Option (List (List Int)) := some (isS leV xs)
theorem tSortI : G1T vSorted (eL eI) (eL eI) pSortI := fun S a b h => by
  cases h
  simp only [vSorted, keysOf_d, seqOf_d, Option.bind_some, sortOk_I, if_true, sortD_map ordI leD_I]
theorem tSortVI : G1T vSorted (eV eI) (eL eI) pSortI := fun S a b h => by
  cases h
  simp only [vSorted, keysOf_d, seqOf_t, Option.bind_some, sortOk_I, if_true, sortD_map ordI leD_I]
theorem tSortP : G1T vSorted (eL (eP eI eI)) (eL (eP eI eI)) pSortP := fun S a b h => by
  cases h
  simp only [vSorted, keysOf_d, seqOf_d, Option.bind_some, sortOk_P, if_true, sortD_map ordP leD_P]
theorem tSortV : G1T vSorted (eL (eV eI)) (eL (eV eI)) pSortV := fun S a b h => by
  cases h
  simp only [vSorted, keysOf_d, seqOf_d, Option.bind_some, sortOk_V, if_true, sortD_map ordV leD_V]
/-- sorted(set(xs)) of pairs, none less than 0 -/
def insU (x : Int × Int) : List (Int × Int) → List (Int × Int)
  | [] => [x]
  | y :: r => if x = y then y :: r else if leP x y = true then x :: y :: r else y :: insU x r
def usP : List (Int × Int) → List (Int × Int)
  | [] => []
  | x :: xs => insU x (usP xs)
def pSetP (xs : List (Int × Int)) : Option (List (Int × Int)) := if (Nat.blt xs.length 64 && xs.all fun p => decide (0 ≤ p.1) && decide (0 ≤ p.2)) = true then some (usP xs) else none
def row2 (p : Int × Int) : List Int := [p.1, p.2]
theorem row2_inj {p q : Int × Int} : row2 p = row2 q ↔ p = q := by
  obtain ⟨a, b⟩ := p
  obtain ⟨c, d⟩ := q
  simp [row2]
theorem row2_lt {p q : Int × Int} (hne : p ≠ q) : row2 p < row2 q ↔ leP p q = true := by
  obtain ⟨a, b⟩ := p
  obtain ⟨c, d⟩ := q
  have hne' : ¬ (a = c ∧ b = d) := fun z => hne (by rw [z.1, z.2])
  simp only [row2, leP, List.cons_lt_cons_iff, List.not_lt_nil, and_false, or_false, decide_eq_true_eq]
  omega
theorem ins_row2 (x : Int × Int) : ∀ r : List (Int × Int), insR (row2 x) (r.map row2) = (insU x r).map row2
  | [] => rfl
  | y :: r => by
    simp only [List.map_cons, insR, insU, row2_inj]
    split
    · rfl
    · rename_i hne
      simp only [row2_lt hne]
      split
      · rfl
      · simp [ins_row2 x r]
theorem ss_row2 : ∀ xs : List (Int × Int), ssR (xs.map row2) = (usP xs).map row2
  | [] => rfl
  | x :: xs => by
    show insR (row2 x) (ssR (xs.map row2)) = (insU x (usP xs)).map row2
    rw [ss_row2 xs, ins_row2]
theorem le_sum : ∀ (xs : List Int), (∀ x ∈ xs, 0 ≤ x) → ∀ x ∈ xs, x < xs.sum + 1
  | [], _, x, hx => by simp at hx
  | y :: ys, h, x, hx => by
    have hs : ∀ zs : List Int, (∀ z ∈ zs, 0 ≤ z) → 0 ≤ zs.sum := by
      intro zs
      induction zs with
      | nil => intro _; simp
      | cons z zs ih => intro h; have := h z (by simp); have := ih fun w hw => h w (by simp [hw]); simp; omega
    have h0 := h y (by simp)
    have h1 := hs ys fun z hz => h z (by simp [hz])
    simp only [List.sum_cons]
    rcases List.mem_cons.mp hx with rfl | hx
    · omega
    · have := le_sum ys (fun z hz => h z (by simp [hz])) x hx
      omega
theorem tSetP : G1T vSortedSet (eL (eP eI eI)) (eL (eP eI eI)) pSetP := fun S a b h => by
  unfold pSetP at h
  split at h
  · rename_i q
    cases h
    rw [Bool.and_eq_true, List.all_eq_true] at q
    have hl : a.length < 64 := Nat.blt_eq.mp q.1
    have he : (a.map (eP eI eI)) = (a.map row2).map rowD := by rw [List.map_map]; rfl
    have hok : ssOk (a.map row2) = true := says_true ⟨by simpa using hl, 2, (a.map (fun p => p.1 + p.2)).sum + 1, by decide, fun k hk => by
      obtain ⟨p, hp, rfl⟩ := List.mem_map.mp hk
      refine ⟨rfl, fun m hm => ?_⟩
      have hnn : ∀ x ∈ a.map (fun p => p.1 + p.2), 0 ≤ x := fun x hx => by
        obtain ⟨p', hp', rfl⟩ := List.mem_map.mp hx
        have := q.2 p' hp'
        simp at this
        omega
      have h1 := le_sum _ hnn (p.1 + p.2) (List.mem_map.mpr ⟨p, hp, rfl⟩)
      have h2 := q.2 p hp
      simp at h2
      simp [row2] at hm
      rcases hm with rfl | rfl <;> omega⟩
    have hr : (usP a).map (eP eI eI) = ((usP a).map row2).map rowD := by rw [List.map_map]; rfl
    simp only [vSortedSet, asL_d, Option.bind_some, he, rowsI_map, hok, if_true, ss_row2]
    rw [← hr]
  · cases h
/-! ### is ascending -/
def pLtP (p q : Int × Int) : Option Bool := some (decide (p.1 < q.1 ∨ (p.1 = q.1 ∧ p.2 < q.2)))
theorem tLtP : G2T vLtR (eP eI eI) (eP eI eI) eB pLtP := fun S a b c h => by
  cases h
  obtain ⟨a1, a2⟩ := a
  obtain ⟨b1, b2⟩ := b
  simp only [vLtR, intsOf_cons, intsOf_nil, Option.map_some, Option.bind_some, HT.lexLt_cons, HT.lexLt_nil_nil]
  congr 3
  by_cases h1 : a1 = b1
  · subst h1
    by_cases h2 : a2 = b2
    · subst h2; simp
    · simp [h2]
  · simp [h1]
theorem tLtIR : G2T vLtR eI eI eB (fun a b => some (decide (a < b))) := fun S a b c h => by cases h; rfl
/-! ### calls by keyword -/
section
variable {α β γ δ ρ : Type} {L : List Sl} {e : Enc α} {f : Enc β} {h : Enc γ} {o : Enc δ} {er : Enc ρ}
theorem Ev.k1 {F : Fn} {q : α → Option ρ} {m : ME} {p : Option α} (hF : FnT1 F e er q) (h1 : Ev L m e p) : Ev L (mCallK [0] 1 F (mCons m mNil)) er (pB1 q p) := fun S0 σ S s v hv => by
  obtain ⟨a, ha, hv⟩ := bs hv
  simp [h1 S0 σ S s a ha, permL, hF S a v hv]
theorem Ev.k2 {F : Fn} {q : α → β → Option ρ} {m1 m2 : ME} {p1 : Option α} {p2 : Option β} (hF : FnT2 F e f er q) (h1 : Ev L m1 e p1) (h2 : Ev L m2 f p2) : Ev L (mCallK [0, 1] 2 F (mCons m1 (mCons m2 mNil))) er (pB2 q p1 p2) := fun S0 σ S s v hv => by
  obtain ⟨a, ha, hv⟩ := bs hv
  obtain ⟨b, hb, hv⟩ := bs hv
  simp [h1 S0 σ S s a ha, h2 S0 σ S s b hb, permL, hF S a b v hv]
theorem Ev.k3 {F : Fn} {q : α → β → γ → Option ρ} {m1 m2 m3 : ME} {p1 : Option α} {p2 : Option β} {p3 : Option γ} (hF : FnT3 F e f h er q) (h1 : Ev L m1 e p1) (h2 : Ev L m2 f p2) (h3 : Ev L m3 h p3) : Ev L (mCallK [0, 1, 2] 3 F (mCons m1 (mCons m2 (mCons m3 mNil)))) er (pB3 q p1 p2 p3) := fun S0 σ S s v hv => by
  obtain ⟨a, ha, hv⟩ := bs hv
  obtain ⟨b, hb, hv⟩ := bs hv
  obtain ⟨c, hc, hv⟩ := bs hv
  simp [h1 S0 σ S s a ha, h2 S0 σ S s b hb, h3 S0 σ S s c hc, permL, hF S a b c v hv]
theorem Ev.k4 {F : Fn} {q : α → β → γ → δ → Option ρ} {m1 m2 m3 m4 : ME} {p1 : Option α} {p2 : Option β} {p3 : Option γ} {p4 : Option δ} (hF : FnT4 F e f h o er q) (h1 : Ev L m1 e p1) (h2 : Ev L m2 f p2) (h3 : Ev L m3 h p3) (h4 : Ev L m4 o p4) : Ev L (mCallK [0, 1, 2, 3] 4 F (mCons m1 (mCons m2 (mCons m3 (mCons m4 mNil))))) er (pB4 q p1 p2 p3 p4) := fun S0 σ S s v hv => by
  obtain ⟨a, ha, hv⟩ := bs hv
  obtain ⟨b, hb, hv⟩ := bs hv
  obtain ⟨c, hc, hv⟩ := bs hv
  obtain ⟨d, hd, hv⟩ := bs hv
  simp [h1 S0 σ S s a ha, h2 S0 σ S s b hb, h3 S0 σ S s c hc, h4 S0 σ S s d hd, permL, hF S a b c d v hv]
/-! ### a dict that is handed back, then no longer changed -/
theorem EvS.own4 {F : Fn} {q : α → β → γ → δ → Option ρ} {fo : ρ → O} {m1 m2 m3 m4 : ME} {p1 : Option α} {p2 : Option β} {p3 : Option γ} {p4 : Option δ} (hF : ∀ (S : Sto) a b c d r, q a b c d = some r → F [.d (e a), .d (f b), .d (h c), .d (o d)] S = some (.loc S.length, S ++ [fo r])) (h1 : Ev L m1 e p1) (h2 : Ev L m2 f p2) (h3 : Ev L m3 h p3) (h4 : Ev L m4 o p4) :
    EvS L (mCallF 4 F (mCons m1 (mCons m2 (mCons m3 (mCons m4 mNil))))) (pB4 q p1 p2 p3 p4) (fun r => .m (fo r)) := fun S0 σ S s v hv => by
  obtain ⟨a, ha, hv⟩ := bs hv
  obtain ⟨b, hb, hv⟩ := bs hv
  obtain ⟨c, hc, hv⟩ := bs hv
  obtain ⟨d, hd, hv⟩ := bs hv
  exact .inr ⟨_, rfl, by simp [h1 S0 σ S s a ha, h2 S0 σ S s b hb, h3 S0 σ S s c hc, h4 S0 σ S s d hd, hF S a b c d v hv]⟩
theorem EvS.own1 {F : Fn} {q : α → Option ρ} {fo : ρ → O} {m1 : ME} {p1 : Option α} (hF : ∀ (S : Sto) a r, q a = some r → F [.d (e a)] S = some (.loc S.length, S ++ [fo r])) (h1 : Ev L m1 e p1) :
    EvS L (mCallF 1 F (mCons m1 mNil)) (pB1 q p1) (fun r => .m (fo r)) := fun S0 σ S s v hv => by
  obtain ⟨a, ha, hv⟩ := bs hv
  exact .inr ⟨_, rfl, by simp [h1 S0 σ S s a ha, hF S a v hv]⟩
theorem StN.frzT (i : Nat) {kvs : List (List Key × D)} (hL : L[i]? = some (.m (.dT kvs)) := by rfl) : StN L (mFrzV i) (some ()) (fun _ => L.set i (.w (.td false kvs))) := fun S0 σ S s a ha => by
  obtain ⟨n, h1, h2, h3⟩ := s.kill hL
  exact ⟨σ.set i (some (.td false kvs)), S.set n .dead, by simp [mFrzV, h1, DL.frz, h2], h3 .dead _⟩
theorem StN.frzT0 (i : Nat) {b : Bool} {kvs : List (List Key × D)} (hL : L[i]? = some (.w (.td b kvs)) := by rfl) : StN L (mFrzV i) (some ()) (fun _ => L.set i (.w (.td b kvs))) := fun S0 σ S s a ha => ⟨σ.set i (some (.td b kvs)), S, by simp [mFrzV, s.w i _ hL, DL.frz], s.setW i _⟩
def unlL (L : List Sl) : List Sl := L.map fun x => match x with
  | .w x => .w (unl x)
  | x => x
theorem Sat.unl {S0 : Sto} {σ : Env} {S : Sto} (s : Sat S0 L σ S) : Sat S0 (unlL L) (unlE σ) S := by
  refine ⟨by simp [unlL, unlE, s.len], s.base, fun i x hx => ?_, ?_⟩
  · unfold unlL at hx
    rw [List.getElem?_map] at hx
    obtain ⟨y, h1, h2⟩ := Option.map_eq_some_iff.mp hx
    cases y with
    | w y =>
      cases h2
      have := s.w i y h1
      unfold unlE
      rw [List.getElem?_map, this]; rfl
    | m _ => cases h2
    | j => cases h2
  · obtain ⟨g, g1, g2⟩ := s.m
    have back : ∀ (i : Nat) (o : O), (unlL L)[i]? = some (Sl.m o) → L[i]? = some (Sl.m o) := fun i o ho => by
      unfold unlL at ho
      rw [List.getElem?_map] at ho
      obtain ⟨y, h1, h2⟩ := Option.map_eq_some_iff.mp ho
      cases y with
      | w y => cases h2
      | m _ => cases h2; exact h1
      | j => cases h2
    refine ⟨g, fun i o ho => ?_, fun i j o o' h1 h2 => g2 i j o o' (back i o h1) (back j o' h2)⟩
    obtain ⟨a, b, c⟩ := g1 i o (back i o ho)
    refine ⟨?_, b, c⟩
    unfold unlE
    rw [List.getElem?_map, a]; rfl
theorem StN.lockT (i : Nat) {kvs : List (List Key × D)} {m : MS} {p : Option α} {L1 : α → List Sl} (h1 : StN (L.set i (.w (.td true kvs))) m p L1) (hL : L[i]? = some (.w (.td false kvs))) (hu : unlL L = L) : StN L (mLock i m) p (fun a => unlL (L1 a)) := fun S0 σ S s a ha => by
  have s1 := s.unl
  rw [hu] at s1
  obtain ⟨σ', S', g1, g2⟩ := h1 S0 _ S (s1.setW i (.td true kvs)) a ha
  exact ⟨unlE σ', S', by simp [mLock, s.w i _ hL, lockW, g1, unlO], g2.unl⟩
theorem Ev.getF (i : Nat) {κ : Type} [DecidableEq κ] {ek : Enc κ} {kk : κ → List Key} (K : KT ek kk) {b : Bool} {kvs : List (κ × α)} {mk : ME} {pk : Option κ} (h2 : Ev L mk ek pk) (hL : L[i]? = some (.w (.td b (kvs.map (eKV kk e)))) := by rfl) : Ev L (mBin vDGet (mVar i) mk) e (pB1 (valT kvs) pk) := fun S0 σ S s v hv => by
  obtain ⟨k, hk, hv⟩ := bs hv
  simp [s.w i _ hL, h2 S0 σ S s k hk, vDGet, lookD, K.key, valD_map K.inj, hv]
theorem keys_back {κ : Type} [DecidableEq κ] {ek : Enc κ} {kk : κ → List Key} (K : KT ek kk) (kvs : List (κ × α)) : (kvs.map (eKV kk e)).map (fun kv => PyData.tuple (kv.1.map kD)) = (kvs.map (·.1)).map ek := by
  rw [List.map_map, List.map_map]
  exact List.map_congr_left fun kv _ => K.back kv.1
theorem It.keysF (i : Nat) {κ : Type} [DecidableEq κ] {ek : Enc κ} {kk : κ → List Key} (K : KT ek kk) {kvs : List (κ × α)} (hL : L[i]? = some (.w (.td true (kvs.map (eKV kk e)))) := by rfl) : It L (iK (mVar i)) ek (some (kvs.map (·.1))) := fun S0 σ S s v hv => by
  cases hv
  have := keys_back (e := e) K kvs
  simp only [iK, mVar, s.w i _ hL, Option.bind_some, id, Option.map_some, keysOf, this]
theorem Ev.sortF (i : Nat) {kvs : List ((Int × Int) × α)} (hL : L[i]? = some (.w (.td true (kvs.map (eKV (fun (p : Int × Int) => ([Sum.inl p.1, Sum.inl p.2] : List Key)) e)))) := by rfl) : Ev L (mCall (pure1 vSorted) (mCons (mVar i) mNil)) (eL (eP eI eI)) (pSortP (kvs.map (·.1))) := fun S0 σ S s v hv => by
  cases hv
  have h1 := keys_back (e := e) KT.ii kvs
  have h2 : vSorted S (.td true (kvs.map (eKV (fun (p : Int × Int) => ([Sum.inl p.1, Sum.inl p.2] : List Key)) e))) = some (.d (.list ((isS leP (kvs.map (·.1))).map (eP eI eI)))) := by
    simp only [vSorted, keysOf, h1, Option.bind_some, sortOk_P, if_true, sortD_map ordP leD_P]
  simp [s.w i _ hL, h2]
end
section
variable {st : Type} {n : Nat} {Wd : st → O → Prop} {L : st → List Sl} {α ρ : Type} {er : Enc ρ}
theorem DvN.lockT (i : Nat) {kvs : List (List Key × D)} {m : MS} {d : Dm st α} {L1 : α → st → List Sl} (h1 : DvN n Wd (fun s => (L s).set i (.w (.td true kvs))) m d L1) (hL : ∀ s, (L s)[i]? = some (.w (.td false kvs))) (hu : ∀ s, unlL (L s) = L s) : DvN n Wd L (mLock i m) d (fun a s => unlL (L1 a s)) := fun S0 σ S s o Q hn hs hw hd => by
  have s1 := hs.unl
  rw [hu] at s1
  obtain ⟨a, s', o', σ', S', g1, g2, g3, g4⟩ := h1 S0 _ S s o Q hn (s1.setW i (.td true kvs)) hw hd
  exact ⟨a, s', o', unlE σ', S', by simp [mLock, hs.w i _ (hL s), lockW, g1, unlO], g2, g3.unl, g4⟩
theorem DvR.lockT (i : Nat) {kvs : List (List Key × D)} {m : MS} {d : Dm st (α ⊕ ρ)} {L1 : α → st → List Sl} (h1 : DvR n Wd (fun s => (L s).set i (.w (.td true kvs))) m er d L1) (hL : ∀ s, (L s)[i]? = some (.w (.td false kvs))) (hu : ∀ s, unlL (L s) = L s) : DvR n Wd L (mLock i m) er d (fun a s => unlL (L1 a s)) := fun S0 σ S s o Q hn hs hw hd => by
  have s1 := hs.unl
  rw [hu] at s1
  rcases h1 S0 _ S s o Q hn (s1.setW i (.td true kvs)) hw hd with ⟨a, s', o', σ', S', g1, g2, g3, g4⟩ | ⟨r, s', o', S', g1, g2, g3, g4⟩
  · exact .inl ⟨a, s', o', unlE σ', S', by simp [mLock, hs.w i _ (hL s), lockW, g1, unlO], g2, g3.unl, g4⟩
  · exact .inr ⟨r, s', o', S', by simp [mLock, hs.w i _ (hL s), lockW, g1, unlO, DL.unl], g2, g3, g4⟩
end
/-! ### one of some -/
def bOf (ft : Fn) : MS := mRet (mBin vIx (mVar 1) (mCallF 2 ft (mCons (mVar 0) (mCons (mCall (pure1 vLen) (mCons (mVar 1) (mNil))) (mNil)))))
def FnOf (f : Fn) : Prop := ∀ (n : Nat) (S : Sto) (k : Int) (o : O) (ds : List D), S[n]? = some o → Pot k o → k < 1000000 → ds ≠ [] → ds.length ≤ 16777216 → ∃ (i : Nat) (d : D) (o' : O), ds[i]? = some d ∧ f [.loc n, .d (.list ds)] S = some (.d d, S.set n o') ∧ Pot (k + 1) o'
theorem of_any {ft : Fn} (h : FnTake ft) : FnOf (fnD 2 (bOf ft)) := fun n S k o ds hS hP hk h0 hl => by
  have hpos : 0 < ds.length := List.length_pos_iff.mpr h0
  obtain ⟨d, o', h1, h2, h3, h4⟩ := h n S k ds.length o hS hP hk (by omega) (by omega)
  have hd : d.toNat < ds.length := by omega
  have ha : atI ds d = some ds[d.toNat] := by
    rw [atI_pos h2 (by omega)]
    simp [hd]
  refine ⟨d.toNat, ds[d.toNat], o', by simp [hd], ?_, h4⟩
  have hlt : n < S.length := (List.getElem?_eq_some_iff.mp hS).1
  have ht : trimOk S (S.set n o') = true := trimOk_set (List.take_of_length_le (by simp)) (wp_refs (k + 1, ()) o' h4)
  simp [fnD, bOf, h1, ha, ht]
def dOf {τ α : Type} (xs : List α) : Dm (Int × τ) α := fun s Q => s.1 < 1000000 ∧ xs ≠ [] ∧ xs.length ≤ 16777216 ∧ ∀ x ∈ xs, Q x (s.1 + 1, s.2)
theorem DvE.of {τ α : Type} {e : Enc α} {n : Nat} {L : Int × τ → List Sl} (i : Nat) {F : Fn} (hF : FnOf F) {mu : ME} {du : Dm (Int × τ) (List α)} (h1 : DvE n WP L mu (eL e) du) (hL : ∀ s, (L s)[i]? = some (.w (.loc n)) := by intro _; rfl) (hk : ∀ k k' t, L (k, t) = L (k', t) := by intros; rfl) :
    DvE n WP L (mCallF 2 F (mCons (mVar i) (mCons mu mNil))) e (dBind du dOf) := fun S0 σ S s o Q hn hs hw hd => by
  obtain ⟨u, s1, o1, S1, g1, ⟨g2, g3, g4, g5⟩, g6, g7⟩ := h1 S0 σ S s o _ hn hs hw hd
  obtain ⟨j, d, o2, k1, k2, k3⟩ := hF n S1 s1.1 o1 (u.map e) (g6.atN hn) g7 g2 (by simpa using g3) (by simpa using g4)
  rw [List.getElem?_map] at k1
  obtain ⟨x, hx, rfl⟩ := Option.map_eq_some_iff.mp k1
  have h0 := hs.w i _ (hL s)
  refine ⟨x, (s1.1 + 1, s1.2), o2, S1.set n o2, by simp [h0, g1, k2], g5 x (List.mem_of_getElem? hx), ?_, k3⟩
  rw [hk (s1.1 + 1) s1.1]
  exact g6.setB hn o2
/-- the end: what a round of a law comes to -/
theorem right_of {f : Fn} {B : Int} {d : Dm (Int × Unit) Bool} (h : DrF WP f (fun n => [.loc n]) eB d) (hd : ∀ k : Int, 0 ≤ k → k + B ≤ 1000000 → d (k, ()) fun b s => b = true ∧ s.1 ≤ k + B) : FnRight B f := fun n S k o hS hP hk => by
  have h0 : 0 ≤ k := by
    obtain ⟨_, _, c, _, _, _, h1, h2⟩ := hP
    omega
  obtain ⟨r, s', o', h1, ⟨rfl, h2⟩, h3⟩ := h S n (k, ()) o _ hS hP (hd k h0 hk)
  exact ⟨o', h1, h3.mono h2⟩
end DL

set_option Elab.async false
set_option linter.all false
set_option maxRecDepth 100000
set_option autoImplicit false
/-! The typed layer, plain facts: loops and comprehensions as maps, sums by figures, drawn lists. -/
noncomputable section
namespace DL
open PySem PySem.Spec PyProof.Rows L2
section
variable {α β γ ρ : Type}
theorem pComp_map {m : α → Option β} {f : α → β} : ∀ {xs : List α}, (∀ x ∈ xs, m x = some (f x)) → pComp (fun _ => some true) m xs = some (xs.map f)
  | [], _ => rfl
  | x :: xs, h => by
    have ih := pComp_map (m := m) (f := f) (xs := xs) fun y hy => h y (by simp [hy])
    simp [pComp, h x (by simp), ih]
theorem pComp_filter {t : α → Option Bool} {m : α → Option β} {p : α → Bool} {f : α → β} : ∀ {xs : List α}, (∀ x ∈ xs, t x = some (p x)) → (∀ x ∈ xs, p x = true → m x = some (f x)) → pComp t m xs = some ((xs.filter p).map f)
  | [], _, _ => rfl
  | x :: xs, ht, hm => by
    have ih := pComp_filter (t := t) (m := m) (p := p) (f := f) (xs := xs) (fun y hy => ht y (by simp [hy])) fun y hy => hm y (by simp [hy])
    cases hp : p x with
    | true => simp [pComp, ht x (by simp), hp, hm x (by simp) hp, ih]
    | false => simp [pComp, ht x (by simp), hp, ih]
theorem pFor_fold {b : α → β → Option α} {f : α → β → α} : ∀ {xs : List β} {a : α}, (∀ a, ∀ x ∈ xs, b a x = some (f a x)) → pFor b xs a = some (xs.foldl f a)
  | [], a, _ => rfl
  | x :: xs, a, h => by
    have ih := pFor_fold (b := b) (f := f) (xs := xs) (a := f a x) fun a y hy => h a y (by simp [hy])
    simp [pFor, h a x (by simp), ih]
theorem pFor_inv {b : α → β → Option α} (I : Nat → α → Prop) : ∀ (xs : List β) (j : Nat) (a : α), I j a → (∀ i x a, xs[i]? = some x → I (j + i) a → ∃ a', b a x = some a' ∧ I (j + i + 1) a') → ∃ a', pFor b xs a = some a' ∧ I (j + xs.length) a'
  | [], j, a, h0, _ => ⟨a, rfl, h0⟩
  | x :: xs, j, a, h0, h => by
    obtain ⟨a1, h1, h2⟩ := h 0 x a rfl h0
    obtain ⟨a', h3, h4⟩ := pFor_inv I xs (j + 1) a1 h2 fun i y a hy hI => by
      have := h (i + 1) y a (by simpa using hy) (by rw [show j + (i + 1) = j + 1 + i by omega]; exact hI)
      rw [show j + (i + 1) + 1 = j + 1 + i + 1 by omega] at this
      exact this
    refine ⟨a', by simp [pFor, h1, h3], ?_⟩
    rw [show j + (x :: xs).length = j + 1 + xs.length by simp; omega]
    exact h4
theorem rangeI_at (n : Nat) : ∀ (lo : Int) (i : Nat), i < n → (pRange.rangeI lo n)[i]? = some (lo + i) := by
  induction n with
  | zero => intro lo i h; omega
  | succ n ih =>
    intro lo i h
    cases i with
    | zero => simp [pRange.rangeI]
    | succ i =>
      simp only [pRange.rangeI, List.getElem?_cons_succ, ih (lo + 1) i (by omega)]
      congr 1
      omega
@[simp] theorem rangeI_len (n : Nat) : ∀ lo : Int, (pRange.rangeI lo n).length = n := by
  induction n with
  | zero => intro lo; rfl
  | succ n ih => intro lo; simp [pRange.rangeI, ih]
theorem rangeI_map (n : Nat) : ∀ lo : Int, pRange.rangeI lo n = (List.range n).map fun (i : Nat) => lo + (i : Int) := by
  intro lo
  apply List.ext_getElem?
  intro i
  by_cases h : i < n
  · rw [rangeI_at n lo i h]; simp [h]
  · rw [List.getElem?_eq_none (by simp; omega), List.getElem?_eq_none (by simp; omega)]
theorem pRange_of {lo hi : Int} (h1 : -4611686018427387904 ≤ lo) (h2 : lo < 4611686018427387904) (h3 : -4611686018427387904 ≤ hi) (h4 : hi < 4611686018427387904) : pRange lo hi = some (pRange.rangeI lo (hi - lo).toNat) := by
  unfold pRange
  rw [if_pos (decide_eq_true ⟨h1, h2, h3, h4⟩)]
theorem pMul_l {a b : Int} (h1 : -18446744073709551616 < a) (h2 : a < 18446744073709551616) : pMul a b = some (a * b) := by unfold pMul; simp [h1, h2]
theorem pMul_r {a b : Int} (h1 : -18446744073709551616 < b) (h2 : b < 18446744073709551616) : pMul a b = some (a * b) := by unfold pMul; simp [h1, h2]
theorem pDiv_of {a b : Int} (h1 : 0 < b) (h2 : b < 18446744073709551616) : pDiv a b = some (a / b) := by unfold pDiv; simp [h1, h2]
theorem pMod_of {a b : Int} (h1 : 0 < b) : pMod a b = some (a % b) := by unfold pMod; simp [h1]
/-! what is drawn -/
theorem dForR_unit {st : Type} {b : Unit → β → Dm st (Unit ⊕ ρ)} : ∀ {xs : List β} {s : st} {Q : Unit ⊕ ρ → st → Prop}, (∀ x ∈ xs, ∀ Q, Q (.inl ()) s → b () x s Q) → Q (.inl ()) s → dForR b xs () s Q
  | [], s, Q, _, h => h
  | x :: xs, s, Q, hb, h => by
    refine hb x (by simp) _ ?_
    exact dForR_unit (xs := xs) (fun y hy => hb y (by simp [hy])) h
/-- each is taken or not, by one draw -/
theorem dComp_some {τ : Type} {t : α → Dm (Int × τ) Bool} {m : α → Dm (Int × τ) β} {f : α → β} : ∀ {xs : List α} {k : Int} {u : τ} {Q : List β → Int × τ → Prop}, k + xs.length ≤ 1000000 →
    (∀ x ∈ xs, ∀ (k : Int) Q, k < 1000000 → (∀ c, Q c (k + 1, u)) → t x (k, u) Q) → (∀ x ∈ xs, ∀ s Q, Q (f x) s → m x s Q) → (∀ ys : List α, ys.Sublist xs → Q (ys.map f) (k + xs.length, u)) → dComp t m xs (k, u) Q
  | [], k, u, Q, _, _, _, h => by
    have := h [] (.refl _)
    simpa [dComp] using this
  | x :: xs, k, u, Q, hk, ht, hm, h => by
    simp only [List.length_cons] at hk h
    refine ht x (by simp) k _ (by omega) fun c => ?_
    have e : k + ((xs.length + 1 : Nat) : Int) = k + 1 + (xs.length : Int) := by omega
    cases c with
    | true =>
      refine hm x (by simp) _ _ ?_
      refine dComp_some (xs := xs) (k := k + 1) (by omega) (fun y hy => ht y (by simp [hy])) (fun y hy => hm y (by simp [hy])) fun ys hy => ?_
      rw [← e]
      exact h (x :: ys) (hy.cons_cons x)
    | false =>
      simp only [Bool.false_eq_true, if_false]
      refine dComp_some (xs := xs) (k := k + 1) (by omega) (fun y hy => ht y (by simp [hy])) (fun y hy => hm y (by simp [hy])) fun ys hy => ?_
      rw [← e]
      exact h ys (hy.cons x)
/-- each item drawn, so many draws an item -/
theorem dComp_each {τ : Type} {m : α → Dm (Int × τ) β} {P : β → Prop} (c : Int) (hc : 0 ≤ c) : ∀ {xs : List α} {k : Int} {u : τ} {Q : List β → Int × τ → Prop}, k + c * xs.length ≤ 1000000 →
    (∀ x ∈ xs, ∀ (k : Int) Q, k + c ≤ 1000000 → (∀ y, P y → Q y (k + c, u)) → m x (k, u) Q) → (∀ ys : List β, ys.length = xs.length → (∀ y ∈ ys, P y) → Q ys (k + c * xs.length, u)) → dComp (fun _ => dOpt (some true)) m xs (k, u) Q
  | [], k, u, Q, _, _, h => by
    have := h [] rfl (fun y hy => by cases hy)
    simpa [dComp] using this
  | x :: xs, k, u, Q, hk, hm, h => by
    have e1 : c * ((x :: xs).length : Int) = c + c * (xs.length : Int) := by
      simp only [List.length_cons]
      rw [show ((xs.length + 1 : Nat) : Int) = (xs.length : Int) + 1 by omega, Int.mul_add, Int.mul_one]; omega
    rw [e1] at hk
    have hnn : 0 ≤ c * (xs.length : Int) := Int.mul_nonneg hc (by omega)
    refine ⟨true, rfl, ?_⟩
    simp only [if_true]
    refine hm x (by simp) k _ (by omega) fun y hy => ?_
    refine dComp_each c hc (xs := xs) (k := k + c) (by omega) (fun z hz => hm z (by simp [hz])) fun ys hl hys => ?_
    have := h (y :: ys) (by simp [hl]) (fun z hz => by
      rcases List.mem_cons.mp hz with rfl | hz
      · exact hy
      · exact hys z hz)
    rw [e1] at this
    rw [show k + c + c * (xs.length : Int) = k + (c + c * (xs.length : Int)) by omega]
    exact this
end
/-! ### sums figure by figure -/
def XS (xs : List Nat) : Nat := xs.foldl (fun a b => a ^^^ b) 0
theorem xor_cast (a b : Nat) : Builtin.bitXor (a : Int) (b : Int) = ((a ^^^ b : Nat) : Int) := by
  have := Bits.bitXor_pp (x := (a : Int)) (y := (b : Int)) (by omega) (by omega)
  simpa using this
theorem bit_xor (a b k : Nat) : (a ^^^ b) / 2 ^ k % 2 = (a / 2 ^ k % 2 + b / 2 ^ k % 2) % 2 := by
  have h := Nat.shiftRight_xor_distrib (a := a) (b := b) (i := k)
  rw [Nat.shiftRight_eq_div_pow, Nat.shiftRight_eq_div_pow, Nat.shiftRight_eq_div_pow] at h
  rw [h]
  have := Nat.xor_mod_two_pow (a := a / 2 ^ k) (b := b / 2 ^ k) (n := 1)
  simp only [Nat.pow_one] at this
  rw [this]
  have h1 : a / 2 ^ k % 2 = 0 ∨ a / 2 ^ k % 2 = 1 := by omega
  have h2 : b / 2 ^ k % 2 = 0 ∨ b / 2 ^ k % 2 = 1 := by omega
  rcases h1 with h1 | h1 <;> rcases h2 with h2 | h2 <;> rw [h1, h2] <;> rfl
theorem bits_sum (k : Nat) : ∀ (xs : List Nat) (acc : Nat), (acc / 2 ^ k % 2 + (xs.map fun n => n / 2 ^ k % 2).sum) % 2 = (xs.foldl (fun a b => a ^^^ b) acc) / 2 ^ k % 2
  | [], acc => by simp
  | x :: xs, acc => by
    have ih := bits_sum k xs (acc ^^^ x)
    rw [bit_xor] at ih
    simp only [List.map_cons, List.sum_cons, List.foldl_cons]
    rw [← ih]
    omega
theorem XS_lt (n : Nat) : ∀ (xs : List Nat) (acc : Nat), acc < 2 ^ n → (∀ x ∈ xs, x < 2 ^ n) → xs.foldl (fun a b => a ^^^ b) acc < 2 ^ n
  | [], acc, h, _ => h
  | x :: xs, acc, h, hx => XS_lt n xs (acc ^^^ x) (Nat.xor_lt_two_pow h (hx x (by simp))) fun y hy => hx y (by simp [hy])
theorem XS_perm {xs ys : List Nat} (h : xs.Perm ys) : XS xs = XS ys := by
  unfold XS
  exact h.foldl_eq' (fun x _ y _ z => by rw [Nat.xor_assoc, Nat.xor_comm x y, ← Nat.xor_assoc]) 0
theorem sum_cast : ∀ xs : List Nat, ((xs.map fun (n : Nat) => (n : Int)).sum) = ((xs.sum : Nat) : Int)
  | [] => rfl
  | x :: xs => by simp [sum_cast xs]
/-- n places of twos, each by what an odd number has -/
theorem XS_step (xs : List Nat) (j : Nat) : XS xs % 2 ^ (j + 1) = XS xs % 2 ^ j + 2 ^ j * ((xs.map fun n => n / 2 ^ j % 2).sum % 2) := by
  have h1 := bits_sum j xs 0
  have e1 : XS xs % 2 ^ (j + 1) = XS xs % 2 ^ j + 2 ^ j * (XS xs / 2 ^ j % 2) := by rw [Nat.pow_succ, Nat.mod_mul]
  rw [e1]
  unfold XS
  rw [← h1]
  simp
theorem show_256 : ∀ k : Nat, k < 1024 → showOk (.int (k : Int)) = true := by decide +kernel
end DL

set_option Elab.async false
set_option linter.all false
set_option maxRecDepth 100000
set_option autoImplicit false
/-! The typed layer: more rules. -/
noncomputable section
namespace DL
open PySem PySem.Spec PyProof.Rows L2
section
variable {α β γ δ ρ : Type} {e : Enc α} {f : Enc β} {h : Enc γ} {L : List Sl}
theorem EvS.compN {mi : MI} {g : MG} {t : MT} {m : ME} {vs : List Nat} {p : Option (List α)} (hc : Ev L (mComp mi g t m vs) (eL e) p) : EvS L (mCompN mi g t m vs) p (fun a => .m (.lst (a.map e))) := fun S0 σ S s v hv => by
  have h1 := hc S0 σ S s v hv
  refine .inr ⟨_, rfl, ?_⟩
  simp only [mComp] at h1
  obtain ⟨r, h2, h3⟩ := Option.bind_eq_some_iff.mp h1
  rw [Option.map_eq_some_iff] at h3
  obtain ⟨q, h4, h5⟩ := h3
  simp only [Prod.mk.injEq] at h5
  obtain ⟨h6, h7⟩ := h5
  simp only [mCompN, h2, Option.bind_some, h4, Option.map_some, h7]
  injection h6 with h6
  injection h6 with h6
  rw [h6]
theorem It.enumV {m : ME} {p : Option (List α)} (h1 : Ev L m (eV e) p) : It L (iEnumV (mCons m mNil)) (eP eI e) (p.map (enumI 0)) := fun S0 σ S s v hv => by
  rw [Option.map_eq_some_iff] at hv
  obtain ⟨a, ha, rfl⟩ := hv
  have := enumD_map e a 0
  simp [iEnumV, h1 S0 σ S s a ha, this]
theorem tInVE0 [DecidableEq α] {n : Nat} (E : EqE e n) (hn : n ≤ 62 := by decide) : G2T vIn e (eV e) eB (fun a b => some (decide (a ∈ b))) := fun S a b c h => by
  cases h
  have h1 := E.shaped (by omega) a
  have h2 := E.v.shaped (by omega) b
  have l1 : lookD S (.d (eV e b)) (.d (e a)) = none := rfl
  have h2' : SeqAt.shaped (.tuple (b.map e)) = true := h2
  have l2 : asT (.d (eV e b)) = some (b.map e) := rfl
  simp only [vIn, vHas, l1, asD, Option.bind_some, l2, has_map E, h1, h2', Bool.and_true, if_true, ite_self, Option.map_some]
theorem tNinVE0 [DecidableEq α] {n : Nat} (E : EqE e n) (hn : n ≤ 62 := by decide) : G2T vNotIn e (eV e) eB (fun a b => some (!decide (a ∈ b))) := fun S a b c h => by
  cases h
  have h1 := E.shaped (by omega) a
  have h2 := E.v.shaped (by omega) b
  have l1 : lookD S (.d (eV e b)) (.d (e a)) = none := rfl
  have h2' : SeqAt.shaped (.tuple (b.map e)) = true := h2
  have l2 : asT (.d (eV e b)) = some (b.map e) := rfl
  simp only [vNotIn, vHas, l1, asD, Option.bind_some, l2, has_map E, h1, h2', Bool.and_true, if_true, ite_self, Option.map_some]
theorem Ev.inM0 (i : Nat) [DecidableEq α] {n : Nat} {xs : List α} {m : ME} {p : Option α} (E : EqE e n) (h1 : Ev L m e p) (hL : L[i]? = some (.m (.lst (xs.map e))) := by rfl) (hn : n ≤ 62 := by decide) : Ev L (mBin vIn m (mVar i)) eB (p.map fun a => decide (a ∈ xs)) := fun S0 σ S s v hv => by
  rw [Option.map_eq_some_iff] at hv
  obtain ⟨a, ha, rfl⟩ := hv
  obtain ⟨k, h2, h3, _⟩ := s.write hL
  have g1 := E.shaped (by omega) a
  have g2 : SeqAt.shaped (.list (xs.map e)) = true := E.l.shaped (by omega) xs
  have l1 : lookD S (.loc k) (.d (e a)) = Option.none := by simp [lookD, h3]
  have l2 : asL S (.loc k) = some (xs.map e) := by simp [asL, h3]
  have l3 : asT (.loc k) = Option.none := rfl
  have h4 : vIn S (.d (e a)) (.loc k) = some (.d (.bool (decide (a ∈ xs)))) := by
    simp only [vIn, vHas, l1, asD, Option.bind_some, l3, l2, has_map E, g1, g2, Bool.and_true, if_true, ite_self, Option.map_some]
  simp [h1 S0 σ S s a ha, h2, h4]
theorem Ev.ninM0 (i : Nat) [DecidableEq α] {n : Nat} {xs : List α} {m : ME} {p : Option α} (E : EqE e n) (h1 : Ev L m e p) (hL : L[i]? = some (.m (.lst (xs.map e))) := by rfl) (hn : n ≤ 62 := by decide) : Ev L (mBin vNotIn m (mVar i)) eB (p.map fun a => !decide (a ∈ xs)) := fun S0 σ S s v hv => by
  rw [Option.map_eq_some_iff] at hv
  obtain ⟨a, ha, rfl⟩ := hv
  obtain ⟨k, h2, h3, _⟩ := s.write hL
  have g1 := E.shaped (by omega) a
  have g2 : SeqAt.shaped (.list (xs.map e)) = true := E.l.shaped (by omega) xs
  have l1 : lookD S (.loc k) (.d (e a)) = Option.none := by simp [lookD, h3]
  have l2 : asL S (.loc k) = some (xs.map e) := by simp [asL, h3]
  have l3 : asT (.loc k) = Option.none := rfl
  have h4 : vNotIn S (.d (e a)) (.loc k) = some (.d (.bool (!decide (a ∈ xs)))) := by
    simp only [vNotIn, vHas, l1, asD, Option.bind_some, l3, l2, has_map E, g1, g2, Bool.and_true, if_true, ite_self, Option.map_some]
  simp [h1 S0 σ S s a ha, h2, h4]
theorem tInVE [DecidableEq α] [D : ∀ (a : α) (b : List α), Decidable (a ∈ b)] {n : Nat} (E : EqE e n) (hn : n ≤ 62 := by decide) : G2T vIn e (eV e) eB (fun a b => some (decide (a ∈ b))) := fun S a b c h => tInVE0 E hn S a b c (by rw [← h]; exact congrArg some (decide_eq_decide.mpr Iff.rfl))
theorem tNinVE [DecidableEq α] [D : ∀ (a : α) (b : List α), Decidable (a ∈ b)] {n : Nat} (E : EqE e n) (hn : n ≤ 62 := by decide) : G2T vNotIn e (eV e) eB (fun a b => some (!decide (a ∈ b))) := fun S a b c h => tNinVE0 E hn S a b c (by rw [← h]; exact congrArg (fun z => some (!z)) (decide_eq_decide.mpr Iff.rfl))
theorem Ev.inM (i : Nat) [DecidableEq α] [D : ∀ (a : α) (b : List α), Decidable (a ∈ b)] {n : Nat} {xs : List α} {m : ME} {p : Option α} (E : EqE e n) (h1 : Ev L m e p) (hL : L[i]? = some (.m (.lst (xs.map e))) := by rfl) (hn : n ≤ 62 := by decide) : Ev L (mBin vIn m (mVar i)) eB (p.map fun a => decide (a ∈ xs)) := fun S0 σ S s v hv => Ev.inM0 i E h1 hL hn S0 σ S s v (by rw [← hv]; exact congrArg (fun f => p.map f) (funext fun a => decide_eq_decide.mpr Iff.rfl))
theorem Ev.ninM (i : Nat) [DecidableEq α] [D : ∀ (a : α) (b : List α), Decidable (a ∈ b)] {n : Nat} {xs : List α} {m : ME} {p : Option α} (E : EqE e n) (h1 : Ev L m e p) (hL : L[i]? = some (.m (.lst (xs.map e))) := by rfl) (hn : n ≤ 62 := by decide) : Ev L (mBin vNotIn m (mVar i)) eB (p.map fun a => !decide (a ∈ xs)) := fun S0 σ S s v hv => Ev.ninM0 i E h1 hL hn S0 σ S s v (by rw [← hv]; exact congrArg (fun f => p.map f) (funext fun a => congrArg Bool.not (decide_eq_decide.mpr Iff.rfl)))
/-- two texts that are alike -/
def pRep [DecidableEq α] (e : Enc α) (r : Bool) (a b : α) : Option Bool := if (decide (a = b) && showOk (e a)) = true then some r else Option.none
theorem Ev.rep [DecidableEq α] {m1 m2 : ME} {p1 p2 : Option α} (h1 : Ev L m1 e p1) (h2 : Ev L m2 e p2) : Ev L (mBin vNe (mCall (pure1 vRepr) (mCons m1 mNil)) (mCall (pure1 vRepr) (mCons m2 mNil))) eB (pB2 (pRep e false) p1 p2) := fun S0 σ S s v hv => by
  obtain ⟨a, ha, hv⟩ := Option.bind_eq_some_iff.mp hv
  obtain ⟨b, hb, hv⟩ := Option.bind_eq_some_iff.mp hv
  unfold pRep at hv
  obtain ⟨hc, hv⟩ := some_if hv
  cases hv
  rw [Bool.and_eq_true, decide_eq_true_eq] at hc
  obtain ⟨rfl, k5⟩ := hc
  have r1 : ∀ S, vRepr S (.d (e a)) = some (.d (.str (PyData.shown (e a)))) := fun S => repr_d k5
  simp [h1 S0 σ S s a ha, h2 S0 σ S s a hb, r1, ne_str_same]
theorem tIsNB : G2T vIsNB eB eB eB (fun a b => some (!decide (a = b))) := fun S a b c h => by
  cases h
  cases a <;> cases b <;> rfl
theorem tIsB : G2T vIsB eB eB eB (fun a b => some (decide (a = b))) := fun S a b c h => by
  cases h
  cases a <;> cases b <;> rfl
/-! ### a dict that is handed on and filled: what stands in it is right -/
def FnM2 (F : Fn) (e : Enc α) (f : Enc β) (h : Enc γ) (good : O → Prop) (pre : α → β → Prop) (w : α → β → γ) : Prop := ∀ (S : Sto) (n : Nat) (o : O) (a : α) (b : β), S[n]? = some o → good o → pre a b → ∃ o', F [.d (e a), .d (f b), .loc n] S = some (.d (h (w a b)), S.set n o') ∧ good o'
def dMemo (good : O → Prop) (pre : α → β → Prop) (w : α → β → γ) (a : α) (b : β) : Dm (Int × O) γ := fun s Q => (good s.2 ∧ pre a b) ∧ ∀ o', good o' → Q (w a b) (s.1, o')
theorem DvE.memo {n : Nat} {L : Int × O → List Sl} (i : Nat) {F : Fn} {good : O → Prop} {pre : α → β → Prop} {w : α → β → γ} {m1 m2 : ME} {d1 : Dm (Int × O) α} {d2 : Dm (Int × O) β} (hF : FnM2 F e f h good pre w) (h1 : DvE n WP L m1 e d1) (h2 : DvE n WP L m2 f d2)
    (hL : ∀ s, (L s)[i]? = some (.m s.2) := by intro _; rfl) (hset : ∀ k o o', L (k, o') = (L (k, o)).set i (.m o') := by intros; rfl) :
    DvE n WP L (mCallF 3 F (mCons m1 (mCons m2 (mCons (mVar i) mNil)))) h (dBind d1 fun a => dBind d2 fun b => dMemo good pre w a b) := fun S0 σ S s o Q hn hs hw hd => by
  obtain ⟨a, s1, o1, S1, g1, g2, g3, g4⟩ := h1 S0 σ S s o _ hn hs hw hd
  obtain ⟨b, s2, o2, S2, k1, ⟨⟨c1, c2⟩, c3⟩, k3, k4⟩ := h2 S0 σ S1 s1 o1 _ hn g3 g4 g2
  obtain ⟨p, q1, q2, q3⟩ := k3.write (hL s2)
  obtain ⟨o', r1, r2⟩ := hF S2 p s2.2 a b q2 c1 c2
  refine ⟨w a b, (s2.1, o'), o2, S2.set p o', by simp [g1, k1, q1, r1], c3 o' r2, ?_, k4⟩
  rw [hset s2.1 s2.2 o']
  exact q3 o'
/-- x, known = m1, {} -/
theorem DvN.parT {n : Nat} {L : Int × O → List Sl} (i j : Nat) {m1 : ME} {d1 : Dm (Int × O) α} (h1 : DvE n WP L m1 e d1) (hk : ∀ k o o', L (k, o) = L (k, o') := by intros; rfl) :
    DvN n WP L (mPar2 i j (mCons m1 (mCons mNewT mNil))) (dBind d1 fun a => fun s Q => Q a (s.1, O.dT [])) (fun a s => ((L s).set i (.w (.d (e a)))).set j (.m s.2)) := fun S0 σ S s o Q hn hs hw hd => by
  obtain ⟨a, s1, o1, S1, g1, g2, g3, g4⟩ := h1 S0 σ S s o _ hn hs hw hd
  refine ⟨a, (s1.1, O.dT []), o1, (σ.set i (some (.d (e a)))).set j (some (.loc S1.length)), S1 ++ [.dT []], by simp [g1], g2, ?_, g4⟩
  show Sat _ (((L (s1.1, O.dT [])).set i (.w (.d (e a)))).set j (.m (O.dT []))) _ _
  rw [hk s1.1 (O.dT []) s1.2]
  have t := (g3.setW i (.d (e a)))
  exact (t.push (.dT [])).setM j S1.length (.dT []) (by simp) t.le fun j' hj o' => t.locs hj (Nat.le_refl _) o'
end
end DL

set_option Elab.async false
set_option linter.all false
set_option maxRecDepth 100000
set_option autoImplicit false
/-! Plain facts: look-ups in what was put, loops that draw, dicts handed on. -/
noncomputable section
namespace DL
open PySem PySem.Spec PyProof.Rows L2
section
variable {κ α β : Type} [DecidableEq κ]
theorem valT_cons (k0 : κ) (v0 : α) (r : List (κ × α)) (k : κ) : valT ((k0, v0) :: r) k = if k0 = k then some v0 else valT r k := by
  unfold valT
  rw [List.find?_cons]
  by_cases h : k0 = k
  · simp [h]
  · simp [h]
theorem valT_app (k : κ) (ys : List (κ × α)) : ∀ xs : List (κ × α), valT (xs ++ ys) k = (valT xs k).or (valT ys k)
  | [] => rfl
  | (k0, v0) :: xs => by
    rw [List.cons_append, valT_cons, valT_cons, valT_app k ys xs]
    split <;> rfl
theorem valT_map (k k' : κ) (a : α) : ∀ xs : List (κ × α), valT (xs.map fun kv => if kv.1 = k then (kv.1, a) else kv) k' = if k = k' then (valT xs k).map fun _ => a else valT xs k'
  | [] => by by_cases h : k = k' <;> simp [valT, h]
  | (k0, v0) :: xs => by
    have ih := valT_map k k' a xs
    rw [List.map_cons]
    by_cases h0 : k0 = k
    · subst h0
      rw [if_pos rfl, valT_cons, valT_cons, valT_cons, ih]
      by_cases h : k0 = k'
      · simp [h]
      · simp [h]
    · rw [if_neg h0, valT_cons, valT_cons, valT_cons, ih]
      by_cases h : k = k'
      · subst h
        simp [h0]
      · simp [h]
theorem valT_put (xs : List (κ × α)) (k k' : κ) (a : α) : valT (putT xs k a) k' = if k = k' then some a else valT xs k' := by
  unfold putT
  split
  · rename_i h
    rw [valT_map]
    split
    · obtain ⟨v, hv⟩ := Option.isSome_iff_exists.mp h
      rw [hv]; rfl
    · rfl
  · rename_i h
    rw [valT_app, valT_cons]
    have hn : valT xs k = none := by simpa using h
    by_cases e : k = k'
    · subst e
      simp [hn]
    · rw [if_neg e, if_neg e]
      cases valT xs k' <;> rfl
theorem put_len (xs : List (κ × α)) (k : κ) (a : α) : (putT xs k a).length ≤ xs.length + 1 := by
  unfold putT
  split <;> simp
end
section
variable {α β ρ : Type}
theorem dForR_inv {st : Type} {b : Unit → β → Dm st (Unit ⊕ ρ)} (I : Nat → st → Prop) : ∀ (xs : List β) (j : Nat) (s : st) (Q : Unit ⊕ ρ → st → Prop), I j s → (∀ i x s Q, xs[i]? = some x → I (j + i) s → (∀ s', I (j + i + 1) s' → Q (.inl ()) s') → b () x s Q) → (∀ s', I (j + xs.length) s' → Q (.inl ()) s') → dForR b xs () s Q
  | [], j, s, Q, h0, _, hq => hq s h0
  | x :: xs, j, s, Q, h0, hb, hq => by
    refine hb 0 x s _ (by simp) h0 fun s' hs' => ?_
    refine dForR_inv I xs (j + 1) s' Q hs' (fun i y s2 Q2 hi hI h2 => hb (i + 1) y s2 Q2 (by simpa using hi) (by rw [show j + (i + 1) = j + 1 + i by omega]; exact hI) fun s3 h3 => h2 s3 (by rw [show j + 1 + i + 1 = j + (i + 1) + 1 by omega]; exact h3)) fun s3 h3 => hq s3 ?_
    rw [List.length_cons, show j + (xs.length + 1) = j + 1 + xs.length by omega]
    exact h3
theorem dComp_memo {t : α → Dm (Int × O) Bool} {m : α → Dm (Int × O) β} {p : α → Bool} {f : α → β} {good : O → Prop} : ∀ {xs : List α} {k : Int} {o : O} {Q : List β → Int × O → Prop}, good o →
    (∀ x ∈ xs, ∀ o Q, good o → (∀ o', good o' → Q (p x) (k, o')) → t x (k, o) Q) → (∀ x ∈ xs, ∀ s Q, Q (f x) s → m x s Q) → (∀ o', good o' → Q ((xs.filter p).map f) (k, o')) → dComp t m xs (k, o) Q
  | [], k, o, Q, h0, _, _, h => h o h0
  | x :: xs, k, o, Q, h0, ht, hm, h => by
    refine ht x (by simp) o _ h0 fun o' h1 => ?_
    cases e : p x with
    | true =>
      refine hm x (by simp) _ _ ?_
      refine dComp_memo (xs := xs) h1 (fun y hy => ht y (by simp [hy])) (fun y hy => hm y (by simp [hy])) fun o2 h2 => ?_
      have := h o2 h2
      rw [List.filter_cons_of_pos e, List.map_cons] at this
      exact this
    | false =>
      simp only [Bool.false_eq_true, if_false]
      refine dComp_memo (xs := xs) h1 (fun y hy => ht y (by simp [hy])) (fun y hy => hm y (by simp [hy])) fun o2 h2 => ?_
      have := h o2 h2
      rw [List.filter_cons_of_neg (by simp [e])] at this
      exact this
end
end DL

set_option Elab.async false
set_option linter.all false
set_option maxRecDepth 100000
set_option autoImplicit false
/-! The typed layer: defs that fill a table that is handed in (the table is their state); more rules. -/
noncomputable section
namespace DL
open PySem PySem.Spec PyProof.Rows L2
section
variable {α β γ δ ρ κ : Type} [DecidableEq κ] {e : Enc α} {f : Enc β} {h : Enc γ} {h4 : Enc δ} {er : Enc ρ} {n : Nat}
abbrev Tab (κ α : Type) := List (κ × α)
abbrev WT (kk : κ → List Key) (e : Enc α) : Tab κ α → O → Prop := fun t o => o = .dT (t.map (eKV kk e))
abbrev WK (kk : κ → Key) (e : Enc α) : Tab κ α → O → Prop := fun t o => o = .dK (t.map (eKV kk e))
section
variable {ek : Enc κ} {kk : κ → List Key} {L : Tab κ α → List Sl}
theorem DvE.tIn (i : Nat) (K : KT ek kk) {mk : ME} {dk : Dm (Tab κ α) κ} (h1 : DvE n (WT kk e) L mk ek dk) (hL : ∀ s, (L s)[i]? = some (.w (.loc n)) := by intro _; rfl) :
    DvE n (WT kk e) L (mBin vIn mk (mVar i)) eB (dBind dk fun k => fun s Q => Q (valT s k).isSome s) := fun S0 σ S s o Q hn hs hw hd => by
  obtain ⟨k, s1, o1, S1, g1, g2, g3, g4⟩ := h1 S0 σ S s o _ hn hs hw hd
  have h0 := hs.w i _ (hL s)
  have h2 := g3.atN hn
  subst g4
  exact ⟨_, s1, _, S1, by simp [g1, h0, vIn, vHas, lookD, h2, K.key, valD_map K.inj], g2, g3, rfl⟩
theorem DvE.tNin (i : Nat) (K : KT ek kk) {mk : ME} {dk : Dm (Tab κ α) κ} (h1 : DvE n (WT kk e) L mk ek dk) (hL : ∀ s, (L s)[i]? = some (.w (.loc n)) := by intro _; rfl) :
    DvE n (WT kk e) L (mBin vNotIn mk (mVar i)) eB (dBind dk fun k => fun s Q => Q (!(valT s k).isSome) s) := fun S0 σ S s o Q hn hs hw hd => by
  obtain ⟨k, s1, o1, S1, g1, g2, g3, g4⟩ := h1 S0 σ S s o _ hn hs hw hd
  have h0 := hs.w i _ (hL s)
  have h2 := g3.atN hn
  subst g4
  exact ⟨_, s1, _, S1, by simp [g1, h0, vNotIn, vHas, lookD, h2, K.key, valD_map K.inj], g2, g3, rfl⟩
theorem DvE.tGet (i : Nat) (K : KT ek kk) {mk : ME} {dk : Dm (Tab κ α) κ} (h1 : DvE n (WT kk e) L mk ek dk) (hL : ∀ s, (L s)[i]? = some (.w (.loc n)) := by intro _; rfl) :
    DvE n (WT kk e) L (mBin vDGet (mVar i) mk) e (dBind dk fun k => fun s Q => ∃ a, valT s k = some a ∧ Q a s) := fun S0 σ S s o Q hn hs hw hd => by
  obtain ⟨k, s1, o1, S1, g1, ⟨a, ha, g2⟩, g3, g4⟩ := h1 S0 σ S s o _ hn hs hw hd
  have h0 := hs.w i _ (hL s)
  have h2 := g3.atN hn
  subst g4
  exact ⟨a, s1, _, S1, by simp [g1, h0, vDGet, lookD, h2, K.key, valD_map K.inj, ha], g2, g3, rfl⟩
theorem DvN.tPut (i : Nat) (K : KT ek kk) {mk mv : ME} {dk : Dm (Tab κ α) κ} {dv : Dm (Tab κ α) α} (h1 : DvE n (WT kk e) L mv e dv) (h2 : DvE n (WT kk e) L mk ek dk) (hL : ∀ s, (L s)[i]? = some (.w (.loc n)) := by intro _; rfl) (hk : ∀ s s', L s = L s' := by intros; rfl) :
    DvN n (WT kk e) L (mSetI vSetI (mVar i) mk mv) (dBind dv fun v => dBind dk fun k => fun s Q => okLen (s.length + 1) = true ∧ Q () (putT s k v)) (fun _ s => L s) := fun S0 σ S s o Q hn hs hw hd => by
  obtain ⟨v, s1, o1, S1, g1, g2, g3, g4⟩ := h1 S0 σ S s o _ hn hs hw hd
  obtain ⟨k, s2, o2, S2, k1, ⟨k5, k2⟩, k3, k4⟩ := h2 S0 σ S1 s1 o1 _ hn g3 g4 g2
  have h0 := hs.w i _ (hL s)
  have h3 := k3.atN hn
  subst k4
  refine ⟨(), putT s2 k v, _, σ, S2.set n (.dT ((putT s2 k v).map (eKV kk e))), ?_, k2, ?_, rfl⟩
  · have hf := fits_of k5
    simp [g1, k1, h0, vSetI, h3, K.key, hf, putD_map K.inj]
  · show Sat _ (L (putT s2 k v)) σ _
    rw [hk (putT s2 k v) s2]
    exact k3.setB hn _
end
/-! calls: what is handed in, then the table -/
section
variable {st : Type} {Wd : st → O → Prop} {L : st → List Sl}
theorem DvE.t1 (i : Nat) {F : Fn} {d : α → Dm st ρ} {m1 : ME} {d1 : Dm st α} (hF : ∀ a, DrF Wd F (fun n => [.d (e a), .loc n]) er (d a)) (h1 : DvE n Wd L m1 e d1) (hL : ∀ s, (L s)[i]? = some (.w (.loc n)) := by intro _; rfl) (hk : ∀ s s', L s = L s' := by intros; rfl) :
    DvE n Wd L (mCallF 2 F (mCons m1 (mCons (mVar i) mNil))) er (dBind d1 fun a => d a) := fun S0 σ S s o Q hn hs hw hd => by
  obtain ⟨a, s1, o1, S1, g1, g2, g3, g4⟩ := h1 S0 σ S s o _ hn hs hw hd
  obtain ⟨r, s2, o2, k1, k2, k3⟩ := hF a S1 n s1 o1 Q (g3.atN hn) g4 g2
  have h0 := hs.w i _ (hL s)
  refine ⟨r, s2, o2, S1.set n o2, by simp [h0, g1, k1], k2, ?_, k3⟩
  rw [hk s2 s1]
  exact g3.setB hn o2
theorem DvE.t2 (i : Nat) {F : Fn} {d : α → β → Dm st ρ} {m1 m2 : ME} {d1 : Dm st α} {d2 : Dm st β} (hF : ∀ a b, DrF Wd F (fun n => [.d (e a), .d (f b), .loc n]) er (d a b)) (h1 : DvE n Wd L m1 e d1) (h2 : DvE n Wd L m2 f d2) (hL : ∀ s, (L s)[i]? = some (.w (.loc n)) := by intro _; rfl) (hk : ∀ s s', L s = L s' := by intros; rfl) :
    DvE n Wd L (mCallF 3 F (mCons m1 (mCons m2 (mCons (mVar i) mNil)))) er (dBind d1 fun a => dBind d2 fun b => d a b) := fun S0 σ S s o Q hn hs hw hd => by
  obtain ⟨a, s1, o1, S1, g1, g2, g3, g4⟩ := h1 S0 σ S s o _ hn hs hw hd
  obtain ⟨b, s2, o2, S2, k1, k2, k3, k4⟩ := h2 S0 σ S1 s1 o1 _ hn g3 g4 g2
  obtain ⟨r, s3, o3, l1, l2, l3⟩ := hF a b S2 n s2 o2 Q (k3.atN hn) k4 k2
  have h0 := hs.w i _ (hL s)
  refine ⟨r, s3, o3, S2.set n o3, by simp [h0, g1, k1, l1], l2, ?_, l3⟩
  rw [hk s3 s2]
  exact k3.setB hn o3
theorem DvE.t3 (i : Nat) {F : Fn} {d : α → β → γ → Dm st ρ} {m1 m2 m3 : ME} {d1 : Dm st α} {d2 : Dm st β} {d3 : Dm st γ} (hF : ∀ a b c, DrF Wd F (fun n => [.d (e a), .d (f b), .d (h c), .loc n]) er (d a b c)) (h1 : DvE n Wd L m1 e d1) (h2 : DvE n Wd L m2 f d2) (h3 : DvE n Wd L m3 h d3) (hL : ∀ s, (L s)[i]? = some (.w (.loc n)) := by intro _; rfl) (hk : ∀ s s', L s = L s' := by intros; rfl) :
    DvE n Wd L (mCallF 4 F (mCons m1 (mCons m2 (mCons m3 (mCons (mVar i) mNil))))) er (dBind d1 fun a => dBind d2 fun b => dBind d3 fun c => d a b c) := fun S0 σ S s o Q hn hs hw hd => by
  obtain ⟨a, s1, o1, S1, g1, g2, g3, g4⟩ := h1 S0 σ S s o _ hn hs hw hd
  obtain ⟨b, s2, o2, S2, k1, k2, k3, k4⟩ := h2 S0 σ S1 s1 o1 _ hn g3 g4 g2
  obtain ⟨c, s3, o3, S3, l1, l2, l3, l4⟩ := h3 S0 σ S2 s2 o2 _ hn k3 k4 k2
  obtain ⟨r, s4, o4, p1, p2, p3⟩ := hF a b c S3 n s3 o3 Q (l3.atN hn) l4 l2
  have h0 := hs.w i _ (hL s)
  refine ⟨r, s4, o4, S3.set n o4, by simp [h0, g1, k1, l1, p1], p2, ?_, p3⟩
  rw [hk s4 s3]
  exact l3.setB hn o4
end
theorem drF_never {st : Type} {Wd : st → O → Prop} {F : Fn} {ws : Nat → List W} : DrF Wd F ws er (fun _ _ => False) := fun S n s o Q hS hw hd => hd.elim
/-! ### who hands in an own dict: what stands in it is right, by the first two that are handed in -/
def FnMR (F : Fn) (e : Enc α) (f : Enc β) (h : Enc γ) (good : α → O → Prop) (pre : α → β → Prop) (w : α → β → γ) : Prop := ∀ (S : Sto) (n : Nat) (o : O) (a : α) (b : β), S[n]? = some o → good a o → pre a b → ∃ o', F [.d (e a), .d (f b), .loc n] S = some (.d (h (w a b)), S.set n o') ∧ good a o'
def dMemoR (good : α → O → Prop) (pre : α → β → Prop) (w : α → β → γ) (a : α) (b : β) : Dm (Int × O) γ := fun s Q => (good a s.2 ∧ pre a b) ∧ ∀ o', good a o' → Q (w a b) (s.1, o')
theorem DvE.memoR {n : Nat} {L : Int × O → List Sl} (i : Nat) {F : Fn} {good : α → O → Prop} {pre : α → β → Prop} {w : α → β → γ} {m1 m2 : ME} {d1 : Dm (Int × O) α} {d2 : Dm (Int × O) β} (hF : FnMR F e f h good pre w) (h1 : DvE n WP L m1 e d1) (h2 : DvE n WP L m2 f d2)
    (hL : ∀ s, (L s)[i]? = some (.m s.2) := by intro _; rfl) (hset : ∀ k o o', L (k, o') = (L (k, o)).set i (.m o') := by intros; rfl) :
    DvE n WP L (mCallF 3 F (mCons m1 (mCons m2 (mCons (mVar i) mNil)))) h (dBind d1 fun a => dBind d2 fun b => dMemoR good pre w a b) := fun S0 σ S s o Q hn hs hw hd => by
  obtain ⟨a, s1, o1, S1, g1, g2, g3, g4⟩ := h1 S0 σ S s o _ hn hs hw hd
  obtain ⟨b, s2, o2, S2, k1, ⟨⟨c1, c2⟩, c3⟩, k3, k4⟩ := h2 S0 σ S1 s1 o1 _ hn g3 g4 g2
  obtain ⟨p, q1, q2, q3⟩ := k3.write (hL s2)
  obtain ⟨o', r1, r2⟩ := hF S2 p s2.2 a b q2 c1 c2
  refine ⟨w a b, (s2.1, o'), o2, S2.set p o', by simp [g1, k1, q1, r1], c3 o' r2, ?_, k4⟩
  rw [hset s2.1 s2.2 o']
  exact q3 o'
/-- from the def's own way with the table to that -/
theorem FnMR.of {kk : κ → List Key} {F : Fn} {ev : Enc δ} {D : α → β → Dm (Tab κ δ) γ} {pre : α → β → Prop} {w : α → β → γ} (G : α → Tab κ δ → Prop) (hF : ∀ a b, DrF (WT kk ev) F (fun n => [.d (e a), .d (f b), .loc n]) h (D a b))
    (hD : ∀ a b t Q, pre a b → G a t → (∀ t', G a t' → Q (w a b) t') → D a b t Q) : FnMR F e f h (fun a o => ∃ t, o = .dT (t.map (eKV kk ev)) ∧ G a t) pre w := fun S n o a b hn ⟨t, ho, hg⟩ hp => by
  obtain ⟨r, t', o', h1, ⟨h2, h3⟩, h4⟩ := hF a b S n t o (fun r t' => r = w a b ∧ G a t') hn ho (hD a b t _ hp hg fun t' g => ⟨rfl, g⟩)
  subst h2
  exact ⟨o', h1, t', h4, h3⟩
/-! ### an own dict that is only read by a def -/
def FnD1 (F : Fn) (kk : κ → Key) (e : Enc α) (er : Enc ρ) (q : Tab κ α → Option ρ) : Prop := ∀ (S : Sto) (n : Nat) (t : Tab κ α) (r : ρ), S[n]? = some (.dK (t.map (eKV kk e))) → q t = some r → F [.loc n] S = some (.d (er r), S)
theorem Ev.dK1 {L : List Sl} (i : Nat) {kk : κ → Key} {F : Fn} {q : Tab κ α → Option ρ} (t : Tab κ α) (hF : FnD1 F kk e er q) (hL : L[i]? = some (.m (.dK (t.map (eKV kk e)))) := by rfl) : Ev L (mCallF 1 F (mCons (mVar i) mNil)) er (q t) := fun S0 σ S s v hv => by
  obtain ⟨n, h2, h3, _⟩ := s.write hL
  simp [h2, hF S n t v h3 hv]
/-! ### starred displays, max and min of tuples -/
theorem EvL.star {L : List Sl} {m : ME} {r : MA} {p q : Option (List α)} (h1 : Ev L m (eV e) p) (h2 : EvL L r e q) : EvL L (mStar m r) e (pB2 (fun xs ys => some (xs ++ ys)) p q) := fun S0 σ S s v hv => by
  obtain ⟨a, ha, hv⟩ := Option.bind_eq_some_iff.mp hv
  obtain ⟨b, hb, hv⟩ := Option.bind_eq_some_iff.mp hv
  cases hv
  simp [h1 S0 σ S s a ha, h2 S0 σ S s b hb]
theorem tMaxV : G1T vMaxT (eV eI) eI pMaxL := fun S a b hv => by
  cases a with
  | nil => cases hv
  | cons m ms =>
    have h1 : intsOf ((m :: ms).map eI) = some (m :: ms) := intsOf_map _
    cases hv
    simp only [vMaxT, asT, Option.bind_some, h1]
theorem tMinV : G1T vMinT (eV eI) eI pMinL := fun S a b hv => by
  cases a with
  | nil => cases hv
  | cons m ms =>
    have h1 : intsOf ((m :: ms).map eI) = some (m :: ms) := intsOf_map _
    cases hv
    simp only [vMinT, asT, Option.bind_some, h1]
theorem EqE.up [DecidableEq α] {k m : Nat} (E : EqE e k) (h : k ≤ m) : EqE e m := ⟨E.eqv, E.lay, fun a => Nat.le_trans (E.dep a) h, E.nos⟩
/-! ### own lists compared -/
theorem Ev.eqM [DecidableEq α] {L : List Sl} {k : Nat} (i : Nat) {xs : List α} {m : ME} {p : Option (List α)} (E : EqE e k) (h1 : Ev L m (eL e) p) (hL : L[i]? = some (.m (.lst (xs.map e))) := by rfl) (hk : k ≤ 62 := by decide) : Ev L (mBin vEq (mVar i) m) eB (p.map fun a => decide (xs = a)) := fun S0 σ S s v hv => by
  rw [Option.map_eq_some_iff] at hv
  obtain ⟨a, ha, rfl⟩ := hv
  obtain ⟨n, h2, h3, _⟩ := s.write hL
  have g := (tEq E.l (hn := by omega)) S xs a _ rfl
  have : vEq S (.loc n) (.d (eL e a)) = vEq S (.d (eL e xs)) (.d (eL e a)) := by simp [vEq, strs2, asD, h3]
  simp only [mBin, mVar, h2, Option.bind_some, Option.map_some, id, h1 S0 σ S s a ha, this, g]
theorem Ev.neM [DecidableEq α] {L : List Sl} {k : Nat} (i : Nat) {xs : List α} {m : ME} {p : Option (List α)} (E : EqE e k) (h1 : Ev L m (eL e) p) (hL : L[i]? = some (.m (.lst (xs.map e))) := by rfl) (hk : k ≤ 62 := by decide) : Ev L (mBin vNe (mVar i) m) eB (p.map fun a => !decide (xs = a)) := fun S0 σ S s v hv => by
  rw [Option.map_eq_some_iff] at hv
  obtain ⟨a, ha, rfl⟩ := hv
  obtain ⟨n, h2, h3, _⟩ := s.write hL
  have g := (tNe E.l (hn := by omega)) S xs a _ rfl
  have : vNe S (.loc n) (.d (eL e a)) = vNe S (.d (eL e xs)) (.d (eL e a)) := by simp [vNe, strs2, asD, h3]
  simp only [mBin, mVar, h2, Option.bind_some, Option.map_some, id, h1 S0 σ S s a ha, this, g]
/-! ### sorted, by what Python says of data -/
def leE (e : Enc α) (a b : α) : Bool := PySem.W.dataLe false id (e a) (e b)
def pSortE (e : Enc α) (xs : List α) : Option (List α) := some (xs.mergeSort (leE e))
theorem sortD_mapE (e : Enc α) (xs : List α) : sortD (xs.map e) = (xs.mergeSort (leE e)).map e := by
  unfold sortD
  rw [List.map_mergeSort (r := leE e) (s := PySem.W.dataLe false id) (f := e) (fun a _ b _ => rfl)]
theorem tSortE (h : ∀ xs : List α, sortOk (xs.map e) = true) : G1T vSorted (eL e) (eL e) (pSortE e) := fun S a b hb => by
  cases hb
  simp only [vSorted, keysOf_d, seqOf_d, Option.bind_some, h, if_true, sortD_mapE]
theorem tSortVE (h : ∀ xs : List α, sortOk (xs.map e) = true) : G1T vSorted (eV e) (eL e) (pSortE e) := fun S a b hb => by
  cases hb
  simp only [vSorted, keysOf_d, seqOf_t, Option.bind_some, h, if_true, sortD_mapE]
theorem sortOk_PV (xs : List (Int × List Int)) : sortOk (xs.map (eP eI (eV eI))) = true := says_true ⟨PySem.W.AllAlike.of fun b b' => by
  simp only [PySem.W.alike, PySem.W.alikeAll, Bool.true_and, Bool.and_true]
  exact PySem.W.alike_ints b.2 b'.2, .inl (PySem.W.Sortable.tuples fun b => ⟨_, _, rfl⟩), fun d hd => by
  obtain ⟨x, _, rfl⟩ := List.mem_map.mp hd
  have := dep_le0 (xs := x.2)
  simp only [PyData.depth, PyData.depthAll]
  omega⟩
/-- xs.extend(drawn), xs an own list -/
theorem DvN.ext {st : Type} {Wd : st → O → Prop} {L : st → List Sl} (i : Nat) {xs : List α} {m : ME} {d1 : Dm st (List α)} (h1 : DvE n Wd L m (eL e) d1) (hL : ∀ s, (L s)[i]? = some (.m (.lst (xs.map e))) := by intro _; rfl) : DvN n Wd L (mExpr (mMeth isLoc gExtend (mVar i) (mCons m mNil))) (dBind d1 fun a => dOpt (pFit (xs ++ a))) (fun ys s => (L s).set i (.m (.lst (ys.map e)))) := fun S0 σ S s o Q hn hs hw hd => by
  obtain ⟨a, s1, o1, S1, g1, ⟨ys, hy, hq⟩, g3, g4⟩ := h1 S0 σ S s o _ hn hs hw hd
  obtain ⟨rfl, hf, _⟩ := pFit_some hy
  obtain ⟨k, h2, h3, h4⟩ := g3.write (hL s1)
  obtain ⟨k', h2', h3', _⟩ := hs.write (hL s)
  have hkk : k = k' := by rw [h2] at h2'; simpa using h2'
  subst hkk
  have hf' : fits (xs.length + a.length) = true := by simpa using hf
  refine ⟨xs ++ a, s1, o1, σ, S1.set k (.lst ((xs ++ a).map e)), ?_, hq, h4 _, g4⟩
  simp [h2, isLoc, h3, h3', g1, gExtend, hf']
/-! ### the least integer from 0 on that is no key -/
def bLeast (k : Nat) : MS := mSeq (mAsg 1 (mInt 0)) (mSeq (whileM (mB (mBin vIn (mVar 1) (mVar 0))) (mAsg 1 (mBin vAdd (mVar 1) (mInt 1))) k) (mRet (mVar 1)))
def pLeast (k : Nat) (t : Tab Int α) : Option Int := pWhile (fun a => some (valT t a).isSome) (fun a => some (a + 1)) k 0
theorem least_go {S : Sto} {n : Nat} {t : Tab Int α} (hn : S[n]? = some (.dK (t.map (eKV (fun (i : Int) => (Sum.inl i : Key)) e)))) : ∀ (k : Nat) (a r : Int), pWhile (fun a => some (valT t a).isSome) (fun a => some (a + 1)) k a = some r →
    whileM (mB (mBin vIn (mVar 1) (mVar 0))) (mAsg 1 (mBin vAdd (mVar 1) (mInt 1))) k [some (.loc n), some (.d (.int a))] S = some (.nx [some (.loc n), some (.d (.int r))] S)
  | 0, _, _, h => by cases h
  | k + 1, a, r, h => by
    have hv := valD_map (e := e) KK.int.inj t a
    have hk : keyD (PyData.int a) = some (Sum.inl a) := rfl
    cases hc : valT t a with
    | none =>
      simp only [pWhile, hc, Option.isSome_none, Option.bind_some, Bool.false_eq_true, if_false, Option.some.injEq] at h
      subst h
      simp [whileM, vIn, vHas, lookD, hn, hk, hv, hc]
    | some v =>
      simp only [pWhile, hc, Option.isSome_some, Option.bind_some, if_true] at h
      have := least_go hn k (a + 1) r h
      simp [whileM, vIn, vHas, lookD, hn, hk, hv, hc, this]
theorem least_any (k : Nat) : FnD1 (fnD 2 (bLeast k)) (fun (i : Int) => (Sum.inl i : Key)) e eI (pLeast k) := fun S n t r hn hq => by
  have := least_go hn k 0 r hq
  unfold fnD bLeast
  simp [this]
/-! ### a tuple whose object itself is known -/
def StFT (L : List Sl) (m : MS) (g : ρ → W) (p : Option ρ) : Prop := ∀ S0 σ S, Sat S0 L σ S → ∀ r, p = some r → ∃ S', m σ S = some (.rt (g r) S') ∧ S'.take S0.length = S0
theorem StFT.ret {L : List Sl} {m : ME} {p : Option (List α)} (h1 : Ev L m (eL e) p) : StFT L (mRet (mCall (pure1 vTupleF) (mCons m mNil))) (fun xs => .ft (xs.map e)) p := fun S0 σ S s r hr => ⟨S, by simp [h1 S0 σ S s r hr, vTupleF, asL], s.base⟩
theorem StFT.seqN {L : List Sl} {g : ρ → W} {m1 m2 : MS} {p1 : Option α} {p2 : α → Option ρ} {L1 : α → List Sl} (h1 : StN L m1 p1 L1) (h2 : ∀ a, StFT (L1 a) m2 g (p2 a)) : StFT L (mSeq m1 m2) g (p1.bind p2) := fun S0 σ S s r hr => by
  obtain ⟨a, ha, hr⟩ := Option.bind_eq_some_iff.mp hr
  obtain ⟨σ', S', h3, h4⟩ := h1 S0 σ S s a ha
  obtain ⟨S2, h5, h6⟩ := h2 a S0 σ' S' h4 r hr
  exact ⟨S2, by simp [h3, h5], h6⟩
theorem fn_stFT {n : Nat} {b : MS} {p : Option (List α)} (ws : List D) (h1 : StFT (ws.map (fun d => Sl.w (.d d)) ++ List.replicate (n - ws.length) .j) b (fun xs => .ft (xs.map e)) p) (S : Sto) (r : List α) (hr : p = some r) : fnD n b (ws.map W.d) S = some (.ft (r.map e), S) := by
  obtain ⟨S', h2, h3⟩ := h1 S _ S (sat_start S n ws) r hr
  unfold fnD
  have : (List.map some (List.map W.d ws) ++ List.replicate (n - (List.map W.d ws).length) none : Env) = (ws.map (fun d => some (W.d d)) ++ List.replicate (n - ws.length) none) := by simp
  rw [this, h2]
  simp [trim, h3, trimOk_take h3]
theorem EvS.ft1 {L : List Sl} {F : Fn} {q : α → Option (List ρ)} {m1 : ME} {p1 : Option α} (hF : ∀ (S : Sto) a r, q a = some r → F [.d (e a)] S = some (.ft (r.map er), S)) (h1 : Ev L m1 e p1) :
    EvS L (mCallF 1 F (mCons m1 mNil)) (pB1 q p1) (fun xs => .w (.ft (xs.map er))) := fun S0 σ S s v hv => by
  obtain ⟨a, ha, hv⟩ := Option.bind_eq_some_iff.mp hv
  exact .inl ⟨_, rfl, by simp [h1 S0 σ S s a ha, hF S a v hv]⟩
theorem EvS.ft2 {L : List Sl} {F : Fn} {q : α → β → Option (List ρ)} {m1 m2 : ME} {p1 : Option α} {p2 : Option β} (hF : ∀ (S : Sto) a b r, q a b = some r → F [.d (e a), .d (f b)] S = some (.ft (r.map er), S)) (h1 : Ev L m1 e p1) (h2 : Ev L m2 f p2) :
    EvS L (mCallF 2 F (mCons m1 (mCons m2 mNil))) (pB2 q p1 p2) (fun xs => .w (.ft (xs.map er))) := fun S0 σ S s v hv => by
  obtain ⟨a, ha, hv⟩ := Option.bind_eq_some_iff.mp hv
  obtain ⟨b, hb, hv⟩ := Option.bind_eq_some_iff.mp hv
  exact .inl ⟨_, rfl, by simp [h1 S0 σ S s a ha, h2 S0 σ S s b hb, hF S a b v hv]⟩
theorem Ev.maxF {L : List Sl} (i : Nat) {xs : List Int} (hL : L[i]? = some (.w (.ft (xs.map eI))) := by rfl) : Ev L (mCall (pure1 vMaxT) (mCons (mVar i) mNil)) eI (pMaxL xs) := fun S0 σ S s v hv => by
  cases xs with
  | nil => cases hv
  | cons m ms =>
    have h1 : intsOf ((m :: ms).map eI) = some (m :: ms) := intsOf_map _
    cases hv
    have h2 : vMaxT S (.ft ((m :: ms).map eI)) = some (.d (.int (maxL m ms))) := by simp only [vMaxT, asT, Option.bind_some, h1]
    simp only [mCall, mCons, mNil, mVar, s.w i _ hL, Option.bind_some, Option.map_some, id, pure1, h2]
/-- the first place of what is there -/
def pIdx (xs : List Int) (k : Int) : Option Int := if k ∈ xs then some (xs.idxOf k : Nat) else none
theorem Ev.idxF {L : List Sl} (i : Nat) {xs : List Int} {m : ME} {p : Option Int} (h1 : Ev L m eI p) (hL : L[i]? = some (.w (.ft (xs.map eI))) := by rfl) : Ev L (mMeth isFt gTIndex (mVar i) (mCons m mNil)) eI (pB1 (pIdx xs) p) := fun S0 σ S s v hv => by
  obtain ⟨k, hk, hv⟩ := Option.bind_eq_some_iff.mp hv
  have h2 : intsOf (xs.map eI) = some xs := intsOf_map _
  unfold pIdx at hv
  split at hv
  · rename_i hm
    cases hv
    simp only [mMeth, mCons, mNil, mVar, s.w i _ hL, Option.bind_some, Option.map_some, id, h1 S0 σ S s k hk, isFt, if_true, gTIndex, h2, hm, decide_true]
  · cases hv
theorem indexD_ints (k : Int) : ∀ xs : List Int, k ∈ xs → indexD (.int k) (xs.map eI) = some (xs.idxOf k)
  | [], h => by cases h
  | x :: xs, h => by
    unfold indexD
    rw [List.map_cons]
    by_cases e : x = k
    · subst e
      simp [PyData.eqv]
    · have h2 : k ∈ xs := by
        rcases List.mem_cons.mp h with q | q
        · exact absurd q.symm e
        · exact q
      have h3 : PyData.eqv (.int x) (.int k) = false := by simp [PyData.eqv, e]
      simp only [h3, Bool.false_eq_true, if_false, indexD_ints k xs h2, Option.map_some]
      rw [List.idxOf_cons]
      have : (x == k) = false := by simpa using e
      simp [this]
theorem Ev.idxL {L : List Sl} {m m2 : ME} {p : Option (List Int)} {p2 : Option Int} (h1 : Ev L m (eL eI) p) (h2 : Ev L m2 eI p2) : Ev L (mMeth isLoc gIndex m (mCons m2 mNil)) eI (pB2 pIdx p p2) := fun S0 σ S s v hv => by
  obtain ⟨xs, hx, hv⟩ := Option.bind_eq_some_iff.mp hv
  obtain ⟨k, hk, hv⟩ := Option.bind_eq_some_iff.mp hv
  unfold pIdx at hv
  split at hv
  · rename_i hm
    cases hv
    have h3 : flatD (PyData.int k) = true := rfl
    have h4 : (xs.map eI).all flatD = true := by rw [List.all_map]; simp [Function.comp_def, flatD]
    have h5 : asL S (W.d (PyData.list (xs.map eI))) = some (xs.map eI) := rfl
    have h6 : isLoc S (W.d (PyData.list (xs.map eI))) = true := rfl
    simp only [mMeth, mCons, mNil, h1 S0 σ S s xs hx, h2 S0 σ S s k hk, Option.bind_some, Option.map_some, h6, if_true, gIndex, h5, h3, h4, Bool.and_self, indexD_ints k xs hm]
  · cases hv
/-! ### calls of defs that only draw, where an own dict is told, too -/
def dLift {τ : Type} (d : Dm (Int × Unit) ρ) : Dm (Int × τ) ρ := fun s Q => d (s.1, ()) fun a s' => Q a (s'.1, s.2)
section
variable {τ : Type} {L : Int × τ → List Sl}
theorem DvE.u0 (i : Nat) {F : Fn} {d : Dm (Int × Unit) ρ} (hF : DrF WP F (fun n => [.loc n]) er d) (hL : ∀ s, (L s)[i]? = some (.w (.loc n)) := by intro _; rfl) (hk : ∀ k k' t, L (k, t) = L (k', t) := by intros; rfl) :
    DvE n WP L (mCallF 1 F (mCons (mVar i) mNil)) er (dLift d) := fun S0 σ S s o Q hn hs hw hd => by
  obtain ⟨r, s2, o2, k1, k2, k3⟩ := hF S n (s.1, ()) o (fun a s' => Q a (s'.1, s.2)) (hs.atN hn) hw hd
  have h0 := hs.w i _ (hL s)
  refine ⟨r, (s2.1, s.2), o2, S.set n o2, by simp [h0, k1], k2, ?_, k3⟩
  rw [hk s2.1 s.1]
  exact hs.setB hn o2
theorem DvE.u1 (i : Nat) {F : Fn} {d : α → Dm (Int × Unit) ρ} {m : ME} {d1 : Dm (Int × τ) α} (hF : ∀ a, DrF WP F (fun n => [.loc n, .d (e a)]) er (d a)) (h1 : DvE n WP L m e d1) (hL : ∀ s, (L s)[i]? = some (.w (.loc n)) := by intro _; rfl) (hk : ∀ k k' t, L (k, t) = L (k', t) := by intros; rfl) :
    DvE n WP L (mCallF 2 F (mCons (mVar i) (mCons m mNil))) er (dBind d1 fun a => dLift (d a)) := fun S0 σ S s o Q hn hs hw hd => by
  obtain ⟨a, s1, o1, S1, g1, g2, g3, g4⟩ := h1 S0 σ S s o _ hn hs hw hd
  obtain ⟨r, s2, o2, k1, k2, k3⟩ := hF a S1 n (s1.1, ()) o1 (fun a s' => Q a (s'.1, s1.2)) (g3.atN hn) g4 g2
  have h0 := hs.w i _ (hL s)
  refine ⟨r, (s2.1, s1.2), o2, S1.set n o2, by simp [h0, g1, k1], k2, ?_, k3⟩
  rw [hk s2.1 s1.1]
  exact g3.setB hn o2
theorem DvE.u2 (i : Nat) {F : Fn} {d : α → β → Dm (Int × Unit) ρ} {m1 m2 : ME} {d1 : Dm (Int × τ) α} {d2 : Dm (Int × τ) β} (hF : ∀ a b, DrF WP F (fun n => [.loc n, .d (e a), .d (f b)]) er (d a b)) (h1 : DvE n WP L m1 e d1) (h2 : DvE n WP L m2 f d2) (hL : ∀ s, (L s)[i]? = some (.w (.loc n)) := by intro _; rfl) (hk : ∀ k k' t, L (k, t) = L (k', t) := by intros; rfl) :
    DvE n WP L (mCallF 3 F (mCons (mVar i) (mCons m1 (mCons m2 mNil)))) er (dBind d1 fun a => dBind d2 fun b => dLift (d a b)) := fun S0 σ S s o Q hn hs hw hd => by
  obtain ⟨a, s1, o1, S1, g1, g2, g3, g4⟩ := h1 S0 σ S s o _ hn hs hw hd
  obtain ⟨b, s2, o2, S2, k1, k2, k3, k4⟩ := h2 S0 σ S1 s1 o1 _ hn g3 g4 g2
  obtain ⟨r, s3, o3, l1, l2, l3⟩ := hF a b S2 n (s2.1, ()) o2 (fun a s' => Q a (s'.1, s2.2)) (k3.atN hn) k4 k2
  have h0 := hs.w i _ (hL s)
  refine ⟨r, (s3.1, s2.2), o3, S2.set n o3, by simp [h0, g1, k1, l1], l2, ?_, l3⟩
  rw [hk s3.1 s2.1]
  exact k3.setB hn o3
end
end
end DL

set_option Elab.async false
set_option linter.all false
set_option maxRecDepth 100000
set_option autoImplicit false
/-! The typed layer: values of any kind (eD), own items stored, an own list walked, while with a return. -/
noncomputable section
namespace DL
open PySem PySem.Spec PyProof.Rows L2
section
variable {α β γ δ ρ st : Type} {L : List Sl} {e : Enc α} {f : Enc β} {h : Enc γ} {er : Enc ρ} {pn : Nat} {Wd : st → O → Prop} {LL : st → List Sl}
theorem Ev.never {m : ME} : Ev L m e (Option.none : Option α) := fun S0 σ S s v hv => by cases hv
theorem Te.never {m : MT} : Te L m none := fun S0 σ S s v hv => by cases hv
theorem StF.never {m : MS} : StF L m er none := fun S0 σ S s v hv => by cases hv
theorem StN.never {m : MS} {L1 : α → List Sl} : StN L m none L1 := fun S0 σ S s v hv => by cases hv
/-! ### casts -/
abbrev DecOk (e : Enc α) (d : D → Option α) : Prop := ∀ x a, d x = some a → x = e a
def decI : D → Option Int
  | .int i => some i
  | _ => none
def decB : D → Option Bool
  | .bool i => some i
  | _ => none
def decS : D → Option Str
  | .str i => some i
  | _ => none
def decD : D → Option D := some
def decA (d : D → Option α) : List D → Option (List α)
  | [] => some []
  | x :: xs => (d x).bind fun a => (decA d xs).map fun as => a :: as
def decV (d : D → Option α) : D → Option (List α)
  | .tuple xs => decA d xs
  | _ => none
def decL (d : D → Option α) : D → Option (List α)
  | .list xs => decA d xs
  | _ => none
theorem decI_ok : DecOk eI decI := fun x a h => by
  cases x <;> first | (cases h; rfl) | cases h
theorem decB_ok : DecOk eB decB := fun x a h => by
  cases x <;> first | (cases h; rfl) | cases h
theorem decS_ok : DecOk eS decS := fun x a h => by
  cases x <;> first | (cases h; rfl) | cases h
theorem decD_ok : DecOk eD decD := fun x a h => by cases h; rfl
theorem decA_ok {d : D → Option α} (hd : DecOk e d) : ∀ (xs : List D) (as : List α), decA d xs = some as → xs = as.map e
  | [], as, h => by cases h; rfl
  | x :: xs, as, h => by
    obtain ⟨a, h1, h⟩ := bs h
    rw [Option.map_eq_some_iff] at h
    obtain ⟨bs', h2, rfl⟩ := h
    rw [List.map_cons, hd x a h1, decA_ok hd xs bs' h2]
theorem decV_ok {d : D → Option α} (hd : DecOk e d) : DecOk (eV e) (decV d) := fun x a h => by
  cases x <;> first | cases h | skip
  rename_i xs
  show PyData.tuple xs = PyData.tuple (a.map e)
  rw [decA_ok hd xs a h]
theorem decL_ok {d : D → Option α} (hd : DecOk e d) : DecOk (eL e) (decL d) := fun x a h => by
  cases x <;> first | cases h | skip
  rename_i xs
  show PyData.list xs = PyData.list (a.map e)
  rw [decA_ok hd xs a h]
theorem Ev.up {m : ME} {p : Option α} (h1 : Ev L m e p) : Ev L m eD (p.map e) := fun S0 σ S s v hv => by
  rw [Option.map_eq_some_iff] at hv
  obtain ⟨a, ha, rfl⟩ := hv
  exact h1 S0 σ S s a ha
theorem Ev.down {d : D → Option α} (hd : DecOk e d) {m : ME} {p : Option D} (h1 : Ev L m eD p) : Ev L m e (p.bind d) := fun S0 σ S s v hv => by
  obtain ⟨x, hx, hv⟩ := bs hv
  have := h1 S0 σ S s x hx
  rw [hd x v hv] at this
  exact this
theorem DvE.up {m : ME} {d : Dm st α} (h1 : DvE pn Wd LL m e d) : DvE pn Wd LL m eD (dBind d fun a => dOpt (some (e a))) := fun S0 σ S s o Q hn hs hw hd => by
  obtain ⟨a, s1, o1, S1, g1, ⟨c, hc, hq⟩, g3, g4⟩ := h1 S0 σ S s o _ hn hs hw hd
  cases hc
  exact ⟨_, s1, o1, S1, g1, hq, g3, g4⟩
theorem DvE.down {d : D → Option α} (hd : DecOk e d) {m : ME} {d1 : Dm st D} (h1 : DvE pn Wd LL m eD d1) : DvE pn Wd LL m e (dBind d1 fun a => dOpt (d a)) := fun S0 σ S s o Q hn hs hw hq => by
  obtain ⟨a, s1, o1, S1, g1, ⟨c, hc, hq⟩, g3, g4⟩ := h1 S0 σ S s o _ hn hs hw hq
  rw [hd a c hc] at g1
  exact ⟨_, s1, o1, S1, g1, hq, g3, g4⟩
theorem DvE.never {m : ME} : DvE pn Wd LL m e (fun _ _ => False) := fun S0 σ S s o Q hn hs hw hd => hd.elim
theorem DvF.never {m : MS} : DvF pn Wd LL m er (fun _ _ => False) := fun S0 σ S s o Q hn hs hw hd => hd.elim
theorem DvN.never {m : MS} {L1 : α → st → List Sl} : DvN pn Wd LL m (fun _ _ => False) L1 := fun S0 σ S s o Q hn hs hw hd => hd.elim
/-! ### asked of what may be anything -/
def isiD (T : String) (d : D) : Option Bool := (tyName (.d d)).bind fun n => kitB n T
theorem Ev.isiD {m : ME} {p : Option D} {T : String} (h1 : Ev L m eD p) : Ev L (mCall (pure2 vIsi) (mCons m (mCons (mC (.v (.ty T))) mNil))) eB (pB1 (DL.isiD T) p) := fun S0 σ S s v hv => by
  obtain ⟨d, hd, hv⟩ := bs hv
  obtain ⟨n, hn, hv⟩ := bs hv
  have h2 : tyName (.d d) = some n := hn
  simp [h1 S0 σ S s d hd, vIsi, h2, hv]
def noneD : D → Bool
  | .none => true
  | _ => false
theorem Ev.isND {m : ME} {p : Option D} (h1 : Ev L m eD p) : Ev L (mBin vIsN m mNone) eB (p.map noneD) := fun S0 σ S s v hv => by
  rw [Option.map_eq_some_iff] at hv
  obtain ⟨a, ha, rfl⟩ := hv
  have : isNone (.d a) = noneD a := by cases a <;> rfl
  simp [h1 S0 σ S s a ha, vIsN, this]
/-! ### t * n, t[::-1], str(i) -/
def pRepT (xs : List α) (k : Int) : Option (List α) := if decide (-1000 ≤ k ∧ k ≤ 1000 ∧ xs.length ≤ 1000) = true then some (List.replicate k.toNat xs).flatten else none
theorem tRepT : G2T vRepT (eV e) eI (eV e) pRepT := fun S a b c h => by
  unfold pRepT at h
  split at h
  · rename_i q
    cases h
    have q := of_decide_eq_true q
    have hf : repOk (a.map e).length b = true := says_true (by rw [List.length_map]; exact q)
    simp only [vRepT, hf, if_true]
    congr 3
    simp [List.map_flatten]
  · cases h
theorem Ev.revT {m : ME} {p : Option (List α)} (h1 : Ev L m (eV e) p) : Ev L (mRevT m) (eV e) (p.map List.reverse) := fun S0 σ S s v hv => by
  rw [Option.map_eq_some_iff] at hv
  obtain ⟨a, ha, rfl⟩ := hv
  simp [h1 S0 σ S s a ha]
def pStr (i : Int) : Option Str := if decide (i.natAbs < 18446744073709551616) = true then some (toString i) else none
theorem tStr : G1T vStr eI eS pStr := fun S a b h => by
  unfold pStr at h
  split at h
  · rename_i q
    cases h
    have q := of_decide_eq_true q
    have hf : strOk a = true := says_true (by
      have : a.natAbs.log2 < 64 := by
        by_cases z : a.natAbs = 0
        · rw [z]; decide
        · exact (Nat.log2_lt z).mpr (by omega)
      omega)
    simp only [vStr, hf, if_true]
  · cases h
/-! ### an own item stored -/
def pPut (xs : List α) (k : Int) (v : α) : Option (List α) := (ixN xs.length k).map fun j => xs.set j v
theorem StN.putL (i : Nat) {xs : List α} {mk mv : ME} {pk : Option Int} {pv : Option α} (h1 : Ev L mv e pv) (h2 : Ev L mk eI pk) (hL : L[i]? = some (.m (.lst (xs.map e))) := by rfl) :
    StN L (mSetI vSetI (mVar i) mk mv) (pB2 (fun v k => pPut xs k v) pv pk) (fun ys => L.set i (.m (.lst (ys.map e)))) := fun S0 σ S s ys hy => by
  obtain ⟨v, hv, hy⟩ := bs hy
  obtain ⟨k, hk, hy⟩ := bs hy
  obtain ⟨n, h3, h4, h5⟩ := s.write hL
  unfold pPut at hy
  rw [Option.map_eq_some_iff] at hy
  obtain ⟨j, hj, rfl⟩ := hy
  refine ⟨σ, S.set n (.lst ((xs.set j v).map e)), ?_, h5 _⟩
  simp [h1 S0 σ S s v hv, h2 S0 σ S s k hk, h3, vSetI, h4, hj, List.map_set]
theorem Ev.cutM (i : Nat) {xs : List α} {ml mh : MP} {pl ph : Option (Option Int)} (h2 : EvP L ml pl) (h3 : EvP L mh ph) (hL : L[i]? = some (.m (.lst (xs.map e))) := by rfl) : Ev L (mCut (mVar i) ml mh) (eL e) (pB2 (pCut xs) pl ph) := fun S0 σ S s v hv => by
  obtain ⟨b, hb, hv⟩ := bs hv
  obtain ⟨c, hc, hv⟩ := bs hv
  obtain ⟨n, g2, g3, _⟩ := s.write hL
  simp [g2, h2 S0 σ S s b hb, h3 S0 σ S s c hc, vCut, asL, g3, cutD_map e xs b c hv]
/-! ### an own list walked -/
theorem compO_go {S0 : Sto} {σ : Env} {S : Sto} {g : MG} {t : MT} {m : ME} {bnd : List Sl → α → List Sl} {pt : α → Option Bool} {pm : α → Option β} (hg : Tg g e bnd) (ht : ∀ a, Te (bnd L a) t (pt a)) (hm : ∀ a, Ev (bnd L a) m f (pm a)) (s : Sat S0 L σ S) {n : Nat} {cs : List D} (hn : S[n]? = some (.lst cs)) :
    ∀ (xs : List α) (ys : List β) (acc : List D), pComp pt pm xs = some ys → acc.length + xs.length ≤ 16777216 → compO n cs g t m (xs.map e) σ S acc = some (acc ++ ys.map f, S)
  | [], ys, acc, hv, hl => by
    cases hv
    simp [compO, says_true hn]
  | x :: xs, ys, acc, hv, hl => by
    obtain ⟨c, hc, hv⟩ := bs hv
    simp only [List.length_cons] at hl
    obtain ⟨σ1, g1, g2⟩ := hg S0 L σ S s x
    have t1 := ht x S0 σ1 S g2 c hc
    have hs := says_true hn
    cases c with
    | true =>
      obtain ⟨y, hy, hv⟩ := bs (by simpa using hv)
      rw [Option.map_eq_some_iff] at hv
      obtain ⟨zs, h1, rfl⟩ := hv
      have m1 := hm x S0 σ1 S g2 y hy
      have hf : fits (acc.length + 1) = true := decide_eq_true (by omega)
      have ih := compO_go hg ht hm s hn xs zs (acc ++ [f y]) h1 (by simp; omega)
      simp [compO, hs, g1, t1, m1, hf, ih]
    | false =>
      have ih := compO_go hg ht hm s hn xs ys acc (by simpa using hv) (by omega)
      simp [compO, hs, g1, t1, ih]
theorem Ev.compO (i : Nat) {g : MG} {t : MT} {m : ME} {vs : List Nat} {bnd : List Sl → Int × α → List Sl} {xs : List α} {pt : Int × α → Option Bool} {pm : Int × α → Option β} (hg : Tg g (eP eI e) bnd) (ht : ∀ a, Te (bnd (wipeL L vs) a) t (pt a)) (hm : ∀ a, Ev (bnd (wipeL L vs) a) m f (pm a)) (hL : L[i]? = some (.m (.lst (xs.map e))) := by rfl) :
    Ev L (mCompO (iEnumO (mCons (mVar i) mNil)) g t m vs) (eL f) ((pFit (enumI 0 xs)).bind fun xs => pComp pt pm xs) := fun S0 σ S s v hv => by
  obtain ⟨a', ha', hv2⟩ := bs hv
  clear hv
  obtain ⟨rfl, _, hl⟩ := pFit_some ha'
  obtain ⟨n, h2, h3, _⟩ := s.write hL
  have := compO_go hg ht hm (s.wipe vs) h3 _ v [] hv2 (by simpa using hl)
  have en := enumD_map e xs 0
  have e0 : ((0 : Nat) : Int) = 0 := rfl
  rw [e0] at en
  rw [← en] at this
  simp [iEnumO, h2, ownL, h3, this]
/-! ### while, with a return -/
def pWhileR (c : α → Option Bool) (b : α → Option (α ⊕ ρ)) : Nat → α → Option (α ⊕ ρ)
  | 0, _ => none
  | n + 1, a => (c a).bind fun k => if k = true then (b a).bind fun r => match r with
    | .inl a' => pWhileR c b n a'
    | .inr r => some (.inr r)
    else some (.inl a)
theorem whileR_go {S0 : Sto} {c : MT} {b : MS} {LB : α → List Sl} {pc : α → Option Bool} {pb : α → Option (α ⊕ ρ)} (hc : ∀ a, Te (LB a) c (pc a)) (hb : ∀ a, StR (LB a) b er (pb a) LB) : ∀ (n : Nat) (a : α) (σ : Env) (S : Sto), Sat S0 (LB a) σ S →
    (∀ a', pWhileR pc pb n a = some (.inl a') → ∃ σ' S', whileM c b n σ S = some (.nx σ' S') ∧ Sat S0 (LB a') σ' S') ∧ ∀ r, pWhileR pc pb n a = some (.inr r) → ∃ S', whileM c b n σ S = some (.rt (.d (er r)) S') ∧ S'.take S0.length = S0
  | 0, a, σ, S, s => ⟨fun a' hv => (nomatch hv), fun r hv => (nomatch hv)⟩
  | n + 1, a, σ, S, s => by
    refine ⟨fun a' hv => ?_, fun r hv => ?_⟩ <;> obtain ⟨k, hk, hv⟩ := bs hv <;> have c1 := hc a S0 σ S s k hk <;> cases k
    · have : a = a' := by simpa using hv
      subst this
      exact ⟨σ, S, by simp [whileM, c1], s⟩
    · obtain ⟨a1, h1, hv⟩ := bs (by simpa using hv)
      obtain ⟨k1, k2⟩ := hb a S0 σ S s
      cases a1 with
      | inl a1 =>
        obtain ⟨σ2, S2, h3, h4⟩ := k1 a1 h1
        obtain ⟨σ', S', h5, h6⟩ := (whileR_go hc hb n a1 σ2 S2 h4).1 a' hv
        exact ⟨σ', S', by simp [whileM, c1, h3, h5], h6⟩
      | inr r => cases hv
    · simp at hv
    · obtain ⟨a1, h1, hv⟩ := bs (by simpa using hv)
      obtain ⟨k1, k2⟩ := hb a S0 σ S s
      cases a1 with
      | inl a1 =>
        obtain ⟨σ2, S2, h3, h4⟩ := k1 a1 h1
        obtain ⟨S', h5, h6⟩ := (whileR_go hc hb n a1 σ2 S2 h4).2 r hv
        exact ⟨S', by simp [whileM, c1, h3, h5], h6⟩
      | inr r' =>
        have : r' = r := by simpa using hv
        subst this
        obtain ⟨S2, h3, h4⟩ := k2 r' h1
        exact ⟨S2, by simp [whileM, c1, h3], h4⟩
theorem StR.while {c : MT} {b : MS} (n : Nat) (LB : α → List Sl) (a0 : α) {pc : α → Option Bool} {pb : α → Option (α ⊕ ρ)} (hl : Le L (LB a0)) (hc : ∀ a, Te (LB a) c (pc a)) (hb : ∀ a, StR (LB a) b er (pb a) LB) : StR L (whileM c b n) er (pWhileR pc pb n a0) LB := fun S0 σ S s =>
  whileR_go hc hb n a0 σ S (s.weak hl)
/-! ### two own objects and a value -/
theorem StN.par3o (i j k : Nat) {m1 m2 m3 : ME} {p1 : Option α} {p2 : Option β} {p3 : Option γ} {o1 : α → O} {o2 : β → O} (h1 : EvS L m1 p1 (fun a => .m (o1 a))) (h2 : EvS L m2 p2 (fun a => .m (o2 a))) (h3 : Ev L m3 h p3) :
    StN L (mPar3 i j k (mCons m1 (mCons m2 (mCons m3 mNil)))) (pB3 (fun a b c => some (a, b, c)) p1 p2 p3) (fun r => ((L.set i (.m (o1 r.1))).set j (.m (o2 r.2.1))).set k (.w (.d (h r.2.2)))) := fun S0 σ S s r hr => by
  obtain ⟨a, ha, hr⟩ := bs hr
  obtain ⟨b, hb, hr⟩ := bs hr
  obtain ⟨c, hc, hr⟩ := bs hr
  cases hr
  rcases h1 S0 σ S s a ha with ⟨x, g1, g2⟩ | ⟨x, g1, g2⟩
  · cases g1
  cases g1
  rcases h2 S0 σ (S ++ [o1 a]) (s.push _) b hb with ⟨y, k1, k2⟩ | ⟨y, k1, k2⟩
  · cases k1
  cases k1
  have g3 := h3 S0 σ (S ++ [o1 a] ++ [o2 b]) ((s.push _).push _) c hc
  have g3' := g3
  rw [List.append_assoc] at g3'
  simp only [List.cons_append, List.nil_append] at g3'
  have s' := (s.push (o1 a)).setM i S.length (o1 a) (by simp) s.le fun j hj o' => s.locs hj (Nat.le_refl _) o'
  refine ⟨((σ.set i (some (.loc S.length))).set j (some (.loc (S ++ [o1 a]).length))).set k (some (.d (h c))), S ++ [o1 a] ++ [o2 b], by simp [g2, k2, g3'], ?_⟩
  refine Sat.setW ?_ k _
  exact (s'.push (o2 b)).setM j (S ++ [o1 a]).length (o2 b) (by simp) (s.push (o1 a)).le fun k hk o' q => s'.locs hk (Nat.le_refl _) o' q
/-! ### a def that fills a table, called with a new one -/
theorem DvE.t2new {κ : Type} {kk : κ → List Key} {ev : Enc γ} {F : Fn} {d : α → β → Dm (Tab κ γ) ρ} {m1 m2 : ME} {d1 : Dm st α} {d2 : Dm st β} (hF : ∀ a b, DrF (WT kk ev) F (fun n => [.d (e a), .d (f b), .loc n]) er (d a b)) (h1 : DvE pn Wd LL m1 e d1) (h2 : DvE pn Wd LL m2 f d2) :
    DvE pn Wd LL (mCallF 3 F (mCons m1 (mCons m2 (mCons mNewT mNil)))) er (dBind d1 fun a => dBind d2 fun b => fun s Q => d a b [] fun r _ => Q r s) := fun S0 σ S s o Q hn hs hw hd => by
  obtain ⟨a, s1, o1, S1, g1, g2, g3, g4⟩ := h1 S0 σ S s o _ hn hs hw hd
  obtain ⟨b, s2, o2, S2, k1, k2, k3, k4⟩ := h2 S0 σ S1 s1 o1 _ hn g3 g4 g2
  obtain ⟨r, s3, o3, l1, l2, l3⟩ := hF a b (S2 ++ [.dT []]) S2.length [] (.dT []) _ (by simp) rfl k2
  have e3 : (S2 ++ [O.dT []]).set S2.length o3 = S2 ++ [o3] := by simp
  rw [e3] at l1
  exact ⟨r, s2, o2, S2 ++ [o3], by simp [g1, k1, mNewT, l1], l2, k3.push o3, k4⟩
end
end DL

set_option Elab.async false
set_option linter.all false
set_option maxRecDepth 100000
set_option autoImplicit false
/-! The typed layer: l.pop(), dicts by nested tuples. -/
noncomputable section
namespace DL
open PySem PySem.Spec PyProof.Rows L2
section
variable {α β γ δ ρ κ : Type} {e : Enc α} {f : Enc β} {h : Enc γ} {L : List Sl}
def pPop (xs : List α) : Option (List α × α) := (xs[xs.length - 1]?).map fun y => (xs.dropLast, y)
theorem StN.pop (i j : Nat) {xs : List α} (hL : L[i]? = some (.m (.lst (xs.map e))) := by rfl) : StN L (mAsg j (mMeth isLoc gPop (mVar i) mNil)) (pPop xs) (fun r => (L.set i (.m (.lst (r.1.map e)))).set j (.w (.d (e r.2)))) := fun S0 σ S s r hr => by
  unfold pPop at hr
  rw [Option.map_eq_some_iff] at hr
  obtain ⟨y, hy, rfl⟩ := hr
  obtain ⟨n, h2, h3, h4⟩ := s.write hL
  have h5 : (xs.map e)[(xs.map e).length - 1]? = some (e y) := by rw [List.length_map, List.getElem?_map, hy]; rfl
  refine ⟨σ.set j (some (.d (e y))), S.set n (.lst ((xs.map e).dropLast)), ?_, ?_⟩
  · simp only [mAsg, mMeth, mVar, h2, mNil, Option.bind_some, Option.map_some, isLoc, h3, if_true, gPop, h5, id]
  · rw [← List.map_dropLast]
    exact (h4 (.lst (xs.dropLast.map e))).setW j _
theorem EvS.newN : EvS L mNewN (some ()) (fun _ => .m (.dN [])) := fun S0 σ S s v hv => .inr ⟨_, rfl, rfl⟩
/-! ### nested keys -/
/-- what is a nested key -/
structure NK (e : Enc κ) (kk : κ → NestedKey) : Prop where
  key : ∀ a, tkey (e a) = some (kk a)
  inj : ∀ a b, kk a = kk b → a = b
abbrev eNV (ek : Enc κ) (e : Enc α) : κ × α → D × D := fun x => (ek x.1, e x.2)
theorem valN_map [DecidableEq κ] {ek : Enc κ} {kk : κ → NestedKey} (K : NK ek kk) (t : List (κ × α)) (k : κ) : valN (t.map (eNV ek e)) (kk k) = (valT t k).map e := by
  induction t with
  | nil => rfl
  | cons x t ih =>
    unfold valN valT at ih ⊢
    simp only [List.map_cons, List.find?_cons, K.key]
    by_cases h1 : x.1 = k
    · subst h1
      simp
    · have h2 : ¬ kk x.1 = kk k := fun z => h1 (K.inj _ _ z)
      simp only [Option.some.injEq, h2, h1, decide_false]
      exact ih
theorem putN_map [DecidableEq κ] {ek : Enc κ} {kk : κ → NestedKey} (K : NK ek kk) (t : List (κ × α)) (k : κ) (v : α) : putN (t.map (eNV ek e)) (ek k) (kk k) (e v) = (putT t k v).map (eNV ek e) := by
  unfold putN
  rw [valN_map K]
  unfold putT
  cases h1 : valT t k with
  | none => simp
  | some y =>
    simp only [Option.map_some, Option.isSome_some, if_true, List.map_map]
    apply List.map_congr_left
    intro x _
    simp only [Function.comp, K.key]
    by_cases h2 : x.1 = k
    · subst h2; simp
    · have h3 : ¬ kk x.1 = kk k := fun z => h2 (K.inj _ _ z)
      simp [h2, h3]
/-! ### strings among strings -/
theorem has_S (a : Str) (b : List Str) : hasD (eS a) (b.map eS) = decide (a ∈ b) := by
  unfold hasD
  induction b with
  | nil => simp
  | cons y ys ih =>
    simp only [List.map_cons, List.any_cons, ih, eqv_S, List.mem_cons, Bool.decide_or]
    congr 1
    exact decide_eq_decide.mpr ⟨fun h => h.symm, fun h => h.symm⟩
theorem tInVS : G2T vIn eS (eV eS) eB (fun a b => some (decide (a ∈ b))) := fun S a b c h => by
  cases h
  have l1 : lookD S (.d (eV eS b)) (.d (eS a)) = none := rfl
  have l2 : asT (.d (eV eS b)) = some (b.map eS) := rfl
  simp only [vIn, vHas, l1, asD, Option.bind_some, l2, flat_map flat_S, has_S, if_true, Option.map_some]
theorem tNinVS : G2T vNotIn eS (eV eS) eB (fun a b => some (!decide (a ∈ b))) := fun S a b c h => by
  cases h
  have l1 : lookD S (.d (eV eS b)) (.d (eS a)) = none := rfl
  have l2 : asT (.d (eV eS b)) = some (b.map eS) := rfl
  simp only [vNotIn, vHas, l1, asD, Option.bind_some, l2, flat_map flat_S, has_S, if_true, Option.map_some]
/-! ### pairs of pairs, sorted -/
abbrev eQ : Enc ((Int × Int) × (Int × Int)) := eP (eP eI eI) (eP eI eI)
def leQ (p q : (Int × Int) × (Int × Int)) : Bool := decide (p.1.1 < q.1.1 ∨ (p.1.1 = q.1.1 ∧ (p.1.2 < q.1.2 ∨ (p.1.2 = q.1.2 ∧ (p.2.1 < q.2.1 ∨ (p.2.1 = q.2.1 ∧ p.2.2 ≤ q.2.2))))))
theorem ordQ : OrdOk leQ := ⟨fun a b => by unfold leQ; simp; omega, fun a b c => by unfold leQ; simp; omega, fun a b => by
  obtain ⟨⟨a1, a2⟩, a3, a4⟩ := a
  obtain ⟨⟨b1, b2⟩, b3, b4⟩ := b
  unfold leQ
  simp
  omega⟩
theorem leD_Q (a b : (Int × Int) × (Int × Int)) : PySem.W.dataLe false id (eQ a) (eQ b) = leQ a b := by
  obtain ⟨⟨a1, a2⟩, a3, a4⟩ := a
  obtain ⟨⟨b1, b2⟩, b3, b4⟩ := b
  show (!PySem.W.dataLt (.tuple [.tuple [.int b1, .int b2], .tuple [.int b3, .int b4]]) (.tuple [.tuple [.int a1, .int a2], .tuple [.int a3, .int a4]])) = _
  rw [PySem.W.dataLt_pair (by simp [PySem.W.alike, PySem.W.alikeAll]) (by simp [PySem.W.alike, PySem.W.alikeAll]), PySem.W.dataLt_ii, PySem.W.dataLt_ii]
  have e : ∀ x y z w : Int, PyData.eqv (.tuple [.int x, .int y]) (.tuple [.int z, .int w]) = decide (x = z ∧ y = w) := fun x y z w => by
    by_cases h1 : x = z <;> by_cases h2 : y = w <;> simp [PyData.eqv, PyData.eqvAll, h1, h2]
  rw [e, e]
  unfold leQ
  by_cases h1 : b1 = a1 ∧ b2 = a2
  · rw [if_pos (decide_eq_true h1)]
    by_cases h2 : b3 = a3 ∧ b4 = a4
    · rw [if_pos (decide_eq_true h2)]
      exact (decide_eq_true (by dsimp only; omega)).symm
    · rw [if_neg (fun z => h2 (of_decide_eq_true z)), ← decide_not]
      exact decide_eq_decide.mpr (by dsimp only; omega)
  · rw [if_neg (fun z => h1 (of_decide_eq_true z)), ← decide_not]
    exact decide_eq_decide.mpr (by dsimp only; omega)
theorem sortOk_Q (xs : List ((Int × Int) × (Int × Int))) : sortOk (xs.map eQ) = true := says_true ⟨PySem.W.AllAlike.of fun b b' => by
  simp [PySem.W.alike, PySem.W.alikeAll], .inl (PySem.W.Sortable.tuples fun b => ⟨_, _, rfl⟩), fun d hd => by
  obtain ⟨x, _, rfl⟩ := List.mem_map.mp hd
  simp [PyData.depth, PyData.depthAll]⟩
def pSortQ (xs : List ((Int × Int) × (Int × Int))) : Option (List ((Int × Int) × (Int × Int))) := some (isS leQ xs)
theorem tSortQ : G1T vSorted (eL eQ) (eL eQ) pSortQ := fun S a b hb => by
  cases hb
  simp only [vSorted, keysOf_d, seqOf_d, Option.bind_some, sortOk_Q, if_true, sortD_map ordQ leD_Q]
/-- a pair, as a tuple of any length -/
theorem Ev.pairV {m : ME} {p : Option (α × α)} (h1 : Ev L m (eP e e) p) : Ev L m (eV e) (p.map fun x => [x.1, x.2]) := fun S0 σ S s v hv => by
  rw [Option.map_eq_some_iff] at hv
  obtain ⟨a, ha, rfl⟩ := hv
  exact h1 S0 σ S s a ha
theorem tInLE [DecidableEq α] [I : ∀ (a : α) (b : List α), Decidable (a ∈ b)] {n : Nat} (E : EqE e n) (hn : n ≤ 63 := by decide) : G2T vIn e (eL e) eB (fun a b => some (decide (a ∈ b))) := fun S a b c h => tInL E hn S a b c (by rw [← h]; exact congrArg some (decide_eq_decide.mpr Iff.rfl))
theorem tNinLE [DecidableEq α] [I : ∀ (a : α) (b : List α), Decidable (a ∈ b)] {n : Nat} (E : EqE e n) (hn : n ≤ 63 := by decide) : G2T vNotIn e (eL e) eB (fun a b => some (!decide (a ∈ b))) := fun S a b c h => tNinL E hn S a b c (by rw [← h]; exact congrArg (fun z => some (!z)) (decide_eq_decide.mpr Iff.rfl))
/-! ### dict(pairs of strings).get(k, x) -/
def mergeT [DecidableEq κ] (t : List (κ × α)) : List (κ × α) → List (κ × α)
  | [] => t
  | kv :: r => mergeT (putT t kv.1 kv.2) r
theorem mergeD_map (t xs : List (Str × Str)) : mergeD (t.map (eKV (fun (i : Str) => (Sum.inr i : Key)) eS)) (xs.map (eKV (fun (i : Str) => (Sum.inr i : Key)) eS)) = (mergeT t xs).map (eKV (fun (i : Str) => (Sum.inr i : Key)) eS) := by
  induction xs generalizing t with
  | nil => rfl
  | cons x xs ih =>
    simp only [List.map_cons, mergeD, mergeT]
    rw [← ih]
    congr 1
    exact putD_map (e := eS) KK.str.inj t x.1 x.2
theorem pairsD_map : ∀ xs : List (Str × Str), pairsD (xs.map (eP eS eS)) = some (xs.map (eKV (fun (i : Str) => (Sum.inr i : Key)) eS))
  | [] => rfl
  | x :: xs => by
    have ih := pairsD_map xs
    simp only [List.map_cons, pairsD, DL.keyD, Option.bind_some, ih, Option.map_some]
def pDictGet (xs : List (Str × Str)) (k x : Str) : Option Str := some ((valT (mergeT [] xs) k).getD x)
theorem Ev.dictGet {m mk mx : ME} {p : Option (List (Str × Str))} {pk px : Option Str} (h1 : Ev L m (eL (eP eS eS)) p) (h2 : Ev L mk eS pk) (h3 : Ev L mx eS px) :
    Ev L (mTmp (mGetD (mCall gDict (mCons m mNil)) mk mx)) eS (pB3 pDictGet p pk px) := fun S0 σ S s v hv => by
  obtain ⟨xs, e1, hv⟩ := Option.bind_eq_some_iff.mp hv
  obtain ⟨k, e2, hv⟩ := Option.bind_eq_some_iff.mp hv
  obtain ⟨x, e3, hv⟩ := Option.bind_eq_some_iff.mp hv
  have g1 := h1 S0 σ S s xs e1
  have s2 := s.push (.dK ((mergeT [] xs).map (eKV (fun (i : Str) => (Sum.inr i : Key)) eS)))
  have g2 := h2 S0 σ _ s2 k e2
  have g3 := h3 S0 σ _ s2 x e3
  have q1 : mCall gDict (mCons m mNil) σ S = some (.loc S.length, S ++ [.dK ((mergeT [] xs).map (eKV (fun (i : Str) => (Sum.inr i : Key)) eS))]) := by
    have q := mergeD_map [] xs
    rw [List.map_nil] at q
    have q0 : asL S (.d (eL (eP eS eS) xs)) = some (xs.map (eP eS eS)) := rfl
    simp only [mCall, mCons, g1, mNil, Option.bind_some, Option.map_some, gDict, q0, pairsD_map, q]
  cases hv
  generalize hT : mergeT [] xs = t at *
  have hv : valD (t.map (eKV (fun (i : Str) => (Sum.inr i : Key)) eS)) (Sum.inr k) = (valT t k).map eS := valD_map (e := eS) KK.str.inj t k
  have hd : isDic (S ++ [.dK (t.map (eKV (fun (i : Str) => (Sum.inr i : Key)) eS))]) (.loc S.length) = true := by simp [isDic]
  have hl : lookD (S ++ [.dK (t.map (eKV (fun (i : Str) => (Sum.inr i : Key)) eS))]) (.loc S.length) (.d (eS k)) = some ((valT t k).map eS) := by
    simp [lookD, DL.keyD, hv]
  unfold mTmp
  simp only [mGetD, mGet2, q1, Option.bind_some, hd, if_true, g2, g3, hl, Option.map_some]
  have htr := trimOk_app S [.dK (t.map (eKV (fun (i : Str) => (Sum.inr i : Key)) eS))]
  cases hz : valT t k <;> simp [htr, hz, hT]
/-! ### a table of nested keys, handed on -/
theorem DvN.parN {n : Nat} {L : Int × O → List Sl} (i j : Nat) {m1 : ME} {d1 : Dm (Int × O) α} (h1 : DvE n WP L m1 e d1) (hk : ∀ k o o', L (k, o) = L (k, o') := by intros; rfl) :
    DvN n WP L (mPar2 i j (mCons m1 (mCons mNewN mNil))) (dBind d1 fun a => fun s Q => Q a (s.1, O.dN [])) (fun a s => ((L s).set i (.w (.d (e a)))).set j (.m s.2)) := fun S0 σ S s o Q hn hs hw hd => by
  obtain ⟨a, s1, o1, S1, g1, g2, g3, g4⟩ := h1 S0 σ S s o _ hn hs hw hd
  refine ⟨a, (s1.1, O.dN []), o1, (σ.set i (some (.d (e a)))).set j (some (.loc S1.length)), S1 ++ [.dN []], by simp [g1], g2, ?_, g4⟩
  show Sat _ (((L (s1.1, O.dN [])).set i (.w (.d (e a)))).set j (.m (O.dN []))) _ _
  rw [hk s1.1 (O.dN []) s1.2]
  have t := (g3.setW i (.d (e a)))
  exact (t.push (.dN [])).setM j S1.length (.dN []) (by simp) t.le fun j' hj o' => t.locs hj (Nat.le_refl _) o'
def FnMR1 (F : Fn) (e : Enc α) (h : Enc γ) (good : α → O → Prop) (pre : α → Prop) (w : α → γ) : Prop := ∀ (S : Sto) (n : Nat) (o : O) (a : α), S[n]? = some o → good a o → pre a → ∃ o', F [.d (e a), .loc n] S = some (.d (h (w a)), S.set n o') ∧ good a o'
def dMemoR1 (good : α → O → Prop) (pre : α → Prop) (w : α → γ) (a : α) : Dm (Int × O) γ := fun s Q => (good a s.2 ∧ pre a) ∧ ∀ o', good a o' → Q (w a) (s.1, o')
theorem DvE.memoR1 {n : Nat} {L : Int × O → List Sl} (i : Nat) {F : Fn} {good : α → O → Prop} {pre : α → Prop} {w : α → γ} {m1 : ME} {d1 : Dm (Int × O) α} (hF : FnMR1 F e h good pre w) (h1 : DvE n WP L m1 e d1)
    (hL : ∀ s, (L s)[i]? = some (.m s.2) := by intro _; rfl) (hset : ∀ k o o', L (k, o') = (L (k, o)).set i (.m o') := by intros; rfl) :
    DvE n WP L (mCallF 2 F (mCons m1 (mCons (mVar i) mNil))) h (dBind d1 fun a => dMemoR1 good pre w a) := fun S0 σ S s o Q hn hs hw hd => by
  obtain ⟨a, s1, o1, S1, g1, ⟨⟨c1, c2⟩, c3⟩, g3, g4⟩ := h1 S0 σ S s o _ hn hs hw hd
  obtain ⟨p, q1, q2, q3⟩ := g3.write (hL s1)
  obtain ⟨o', r1, r2⟩ := hF S1 p s1.2 a q2 c1 c2
  refine ⟨w a, (s1.1, o'), o1, S1.set p o', by simp [g1, q1, r1], c3 o' r2, ?_, g4⟩
  rw [hset s1.1 s1.2 o']
  exact q3 o'
end
end DL

set_option Elab.async false
set_option linter.all false
set_option maxRecDepth 100000
set_option autoImplicit false
/-! What repr can show: bounds. -/
noncomputable section
namespace DL
open PySem PySem.Spec PyProof.Rows L2
structure Shw (d : D) (w h : Nat) : Prop where
  ls : d.leavesShort 13 = true
  sh : d.showable = true
  hd : d.hasDict = false
  dp : d.depth ≤ h
  wt : d.weight ≤ w
theorem Shw.mono {d : D} {w h w' h' : Nat} (s : Shw d w h) (h1 : w ≤ w') (h2 : h ≤ h') : Shw d w' h' := ⟨s.ls, s.sh, s.hd, Nat.le_trans s.dp h2, Nat.le_trans s.wt h1⟩
theorem Shw.ok {d : D} {w h : Nat} (s : Shw d w h) (hw : w ≤ 1048576) (hh : h ≤ 64) : showOk d = true := by
  unfold showOk
  have h1 := PyData.shown_fits (B := 13) (by decide) (by decide) s.ls (Nat.le_trans s.wt (by rw [show (2 : Nat) ^ 20 = 1048576 by decide]; exact hw))
  have h2 : fits d.shown.length = true := decide_eq_true (by rw [sizeLine_eq] at h1; exact h1)
  have h3 : decide (d.depth ≤ 64) = true := decide_eq_true (Nat.le_trans s.dp hh)
  rw [s.sh, s.hd, h3, h2]
  rfl
theorem Shw.int {i : Int} (h : i.natAbs < 1000000000000) : Shw (.int i) 41 0 := by
  refine ⟨?_, ?_, rfl, by simp [PyData.depth], ?_⟩
  · simp only [PyData.leavesShort, decide_eq_true_eq]
    exact PyData.shown_int_le (by rw [show (10 : Nat) ^ 12 = 1000000000000 by decide]; exact h)
  · simp only [PyData.showable, decide_eq_true_eq]
    by_cases h0 : i.natAbs = 0
    · rw [h0]; decide
    · have : i.natAbs.log2 < 40 := (Nat.log2_lt h0).mpr (by rw [show (2 : Nat) ^ 40 = 1099511627776 by decide]; omega)
      omega
  · simp only [PyData.weight]
    split
    · omega
    · by_cases h0 : i.natAbs = 0
      · rw [h0, show Nat.log2 0 = 0 by decide]; omega
      · have : i.natAbs.log2 < 40 := (Nat.log2_lt h0).mpr (by rw [show (2 : Nat) ^ 40 = 1099511627776 by decide]; omega)
        omega
theorem Shw.nat {n : Nat} (h : n < 1000000000000) : Shw (.int (n : Int)) 41 0 := Shw.int (by omega)
theorem Shw.bool (b : Bool) : Shw (.bool b) 0 0 := ⟨rfl, rfl, rfl, by simp [PyData.depth], by simp [PyData.weight]⟩
theorem Shw.none : Shw .none 0 0 := ⟨rfl, rfl, rfl, by simp [PyData.depth], by simp [PyData.weight]⟩
theorem shw_all {w h : Nat} : ∀ {ds : List D}, (∀ d ∈ ds, Shw d w h) → PyData.leavesShortAll 13 ds = true ∧ PyData.showableAll ds = true ∧ PyData.hasDictAll ds = false ∧ PyData.depthAll ds ≤ h ∧ PyData.weightAll ds ≤ ds.length * (w + 1)
  | [], _ => ⟨rfl, rfl, rfl, by simp [PyData.depthAll], by simp [PyData.weightAll]⟩
  | d :: ds, hd => by
    obtain ⟨a1, a2, a3, a4, a5⟩ := hd d (by simp)
    obtain ⟨b1, b2, b3, b4, b5⟩ := shw_all (ds := ds) fun x hx => hd x (by simp [hx])
    refine ⟨by simp [PyData.leavesShortAll, a1, b1], by simp [PyData.showableAll, a2, b2], by simp [PyData.hasDictAll, a3, b3], by simp only [PyData.depthAll]; omega, ?_⟩
    simp only [PyData.weightAll, List.length_cons]
    rw [Nat.succ_mul]
    omega
theorem Shw.list {w h : Nat} {ds : List D} (hd : ∀ d ∈ ds, Shw d w h) : Shw (.list ds) (ds.length * (w + 1)) (h + 1) := by
  obtain ⟨b1, b2, b3, b4, b5⟩ := shw_all hd
  exact ⟨by simpa only [PyData.leavesShort] using b1, by simpa only [PyData.showable] using b2, by simpa only [PyData.hasDict] using b3, by simp only [PyData.depth]; omega, by simpa only [PyData.weight] using b5⟩
theorem Shw.tuple {w h : Nat} {ds : List D} (hd : ∀ d ∈ ds, Shw d w h) : Shw (.tuple ds) (ds.length * (w + 1)) (h + 1) := by
  obtain ⟨b1, b2, b3, b4, b5⟩ := shw_all hd
  exact ⟨by simpa only [PyData.leavesShort] using b1, by simpa only [PyData.showable] using b2, by simpa only [PyData.hasDict] using b3, by simp only [PyData.depth]; omega, by simpa only [PyData.weight] using b5⟩
theorem Shw.v {α : Type} {e : Enc α} {w h : Nat} {xs : List α} (hx : ∀ x ∈ xs, Shw (e x) w h) : Shw (eV e xs) (xs.length * (w + 1)) (h + 1) := by
  have := Shw.tuple (ds := xs.map e) fun d hd => by obtain ⟨x, hx', rfl⟩ := List.mem_map.mp hd; exact hx x hx'
  simpa using this
theorem Shw.l {α : Type} {e : Enc α} {w h : Nat} {xs : List α} (hx : ∀ x ∈ xs, Shw (e x) w h) : Shw (eL e xs) (xs.length * (w + 1)) (h + 1) := by
  have := Shw.list (ds := xs.map e) fun d hd => by obtain ⟨x, hx', rfl⟩ := List.mem_map.mp hd; exact hx x hx'
  simpa using this
theorem Shw.p {α β : Type} {e : Enc α} {f : Enc β} {w h : Nat} {p : α × β} (h1 : Shw (e p.1) w h) (h2 : Shw (f p.2) w h) : Shw (eP e f p) (2 * (w + 1)) (h + 1) := by
  have := Shw.tuple (w := w) (h := h) (ds := [e p.1, f p.2]) fun d hd => by
    rcases List.mem_cons.mp hd with rfl | hd
    · exact h1
    · rcases List.mem_cons.mp hd with rfl | hd
      · exact h2
      · cases hd
  exact this
theorem Shw.o {α : Type} {e : Enc α} {w h : Nat} {p : Option α} (h1 : ∀ a, p = some a → Shw (e a) w h) : Shw (eO e p) w h := by
  cases p with
  | none => exact Shw.none.mono (Nat.zero_le _) (Nat.zero_le _)
  | some a => exact h1 a rfl
theorem show_int {i : Int} (h : i.natAbs < 1000000000000) : showOk (.int i) = true := (Shw.int h).ok (by omega) (by omega)
theorem show_ints {xs : List Int} (h : ∀ x ∈ xs, x.natAbs < 1000000000000) (hl : xs.length ≤ 24000) : showOk (eV eI xs) = true := (Shw.v (e := eI) fun x hx => Shw.int (h x hx)).ok (by omega) (by omega)
theorem show_intsL {xs : List Int} (h : ∀ x ∈ xs, x.natAbs < 1000000000000) (hl : xs.length ≤ 24000) : showOk (eL eI xs) = true := (Shw.l (e := eI) fun x hx => Shw.int (h x hx)).ok (by omega) (by omega)
end DL

set_option Elab.async false
set_option linter.all false
set_option maxRecDepth 100000
set_option autoImplicit false
noncomputable section
namespace K52
open PySem PySem.Spec PyProof.Rows L2 DL
def top (i : Nat) : Stmt := PySem.Challenge.pw_whoeverbegins_k52_whole_boards_by_all_la.main.body.getD i (.Pass ⟨0, 0, 0, 0⟩)
/-- what the top has left of what is built in, and of constants -/
structure Tx (K : PySem.W.Frag) (mg : Str → Option Value) : Prop where
  f_abs : mg "abs" = none
  f_all : mg "all" = none
  f_any : mg "any" = none
  f_bool : mg "bool" = none
  f_dict : mg "dict" = none
  f_int : mg "int" = none
  f_isinstance : mg "isinstance" = none
  f_len : mg "len" = none
  f_list : mg "list" = none
  f_max : mg "max" = none
  f_min : mg "min" = none
  f_range : mg "range" = none
  f_repr : mg "repr" = none
  f_set : mg "set" = none
  f_sorted : mg "sorted" = none
  f_str : mg "str" = none
  f_sum : mg "sum" = none
  f_tuple : mg "tuple" = none
  f_zip : mg "zip" = none
  c_LEFT : Glb K mg "LEFT" (.d (.str "left"))
  c_RIGHT : Glb K mg "RIGHT" (.d (.str "right"))
  c_MOST_SQUARES : Glb K mg "MOST_SQUARES" (.d (.int 12))
  c_LAST : Glb K mg "LAST" (.d (.int 5))
  c_FIRST : Glb K mg "FIRST" (.d (.str "first"))
  c_SECOND : Glb K mg "SECOND" (.d (.str "second"))
  k_Seen : Cls K (He.ga K "Seen")
  n_Seen_own_wins : NoAttr K (He.ga K "Seen") "own_wins"
section
variable {P : Program} {w : World} {K : PySem.W.Frag} {mg : Str → Option Value} {base : Heap}
/-! ### is_integer -/
abbrev st_is_integer : Stmt := top 5
abbrev N_is_integer : List Str := ["value"]
theorem sc_is_integer : FnScope N_is_integer ["value"] (defScope st_is_integer) := ⟨rfl, rfl, rfl, by decide +kernel, rfl, by decide +kernel, by decide +kernel⟩
def b_is_integer : MS := mRet (mAnd (mCall (pure2 vIsi) (mCons (mVar 0) (mCons (mC (.v (.ty "int"))) (mNil)))) (mNot (mCall (pure2 vIsi) (mCons (mVar 0) (mCons (mC (.v (.ty "bool"))) (mNil))))))
def F_is_integer : Fn := fnD 1 b_is_integer
theorem ok_is_integer {f : Addr} {fd : FuncData} (F : FunD K "is_integer" "is_integer" (defArgs st_is_integer) (defBody st_is_integer) (defScope st_is_integer) [] [] f fd) (T : Tx K mg) : FnG P w K mg base CX0 1 f fd ["value"] (spD ⟨K, w⟩ 1 F_is_integer) := by
  refine fn_mk F (k := 0) sc_is_integer rfl rfl (b := b_is_integer) fun cdv A outer s H E hG hr => ?_
  have nd := sc_is_integer.nd
  exact ds_one (d_ret (d_and (d_callB (c_isi) rfl T.f_isinstance b_isinstance (da_cons (d_var 0) (da_cons (d_type rfl T.f_int b_int) (da_nil)))) (d_one (d_not (d_callB (c_isi) rfl T.f_isinstance b_isinstance (da_cons (d_var 0) (da_cons (d_type rfl T.f_bool b_bool) (da_nil))))))))
theorem cal_is_integer {f : Addr} {fd : FuncData} (F : FunD K "is_integer" "is_integer" (defArgs st_is_integer) (defBody st_is_integer) (defScope st_is_integer) [] [] f fd) (hm : mg "is_integer" = some (.ref f)) (G : FnG P w K mg base CX0 1 f fd ["value"] (spD ⟨K, w⟩ 1 F_is_integer)) : Cal P w K mg base 1 "is_integer" 1 F_is_integer := Cal.of F hm G rfl (fun _ _ _ _ _ _ us hl => match us, hl with | [_], _ => rfl)
/-! ### is_ascending -/
abbrev st_is_ascending : Stmt := top 7
abbrev N_is_ascending : List Str := ["values", "one", "other"]
theorem sc_is_ascending : FnScope N_is_ascending ["values"] (defScope st_is_ascending) := ⟨rfl, rfl, rfl, by decide +kernel, rfl, by decide +kernel, by decide +kernel⟩
def b_is_ascending : MS := mRet (mCall (pure1 vAll) (mCons (mComp (iZipD (mCons (mVar 0) (mCons (mCut (mVar 0) (mP (mInt 1)) (mNoP)) (mNil)))) (gTup 2 (gCons (gN 1) (gCons (gN 2) (gNil)))) (mYes) (mBin vLtR (mVar 1) (mVar 2)) [1, 2]) (mNil)))
def F_is_ascending : Fn := fnD 3 b_is_ascending
theorem ok_is_ascending {f : Addr} {fd : FuncData} (F : FunD K "is_ascending" "is_ascending" (defArgs st_is_ascending) (defBody st_is_ascending) (defScope st_is_ascending) [] [] f fd) (T : Tx K mg) : FnG P w K mg base CX0 1 f fd ["values"] (spD ⟨K, w⟩ 1 F_is_ascending) := by
  refine fn_mk F (k := 0) sc_is_ascending rfl rfl (b := b_is_ascending) fun cdv A outer s H E hG hr => ?_
  have nd := sc_is_ascending.nd
  exact ds_one (d_ret (d_callB (c_all rfl) rfl T.f_all b_all (da_cons (d_comp [("one", 1), ("other", 2)] rfl nd (di_zip rfl T.f_zip (da_cons (d_var 0) (da_cons (d_cut (d_var 0) (dp_some (d_int)) (dp_none)) (da_nil)))) (blkOk_by (by kernel_rfl)) (fun _ _ _ _ _ => dgc_tup rfl (dgcs_cons (dgc_name 1 nd (.inl rfl) rfl (by decide) (.inr rfl)) (dgcs_cons (dgc_name 2 nd (.inl rfl) rfl (by decide) (.inr rfl)) (dgcs_nil)))) (fun _ _ _ _ _ => dts_nil) (fun _ _ _ _ _ => d_cmp (o_ltR hr.units0) (d_var 1) (d_var 2) (nomark _))) (da_nil))))
theorem cal_is_ascending {f : Addr} {fd : FuncData} (F : FunD K "is_ascending" "is_ascending" (defArgs st_is_ascending) (defBody st_is_ascending) (defScope st_is_ascending) [] [] f fd) (hm : mg "is_ascending" = some (.ref f)) (G : FnG P w K mg base CX0 1 f fd ["values"] (spD ⟨K, w⟩ 1 F_is_ascending)) : Cal P w K mg base 1 "is_ascending" 1 F_is_ascending := Cal.of F hm G rfl (fun _ _ _ _ _ _ us hl => match us, hl with | [_], _ => rfl)
/-! ### check_side -/
abbrev st_check_side : Stmt := top 11
abbrev N_check_side : List Str := ["value"]
theorem sc_check_side : FnScope N_check_side ["value"] (defScope st_check_side) := ⟨rfl, rfl, rfl, by decide +kernel, rfl, by decide +kernel, by decide +kernel⟩
def b_check_side : MS := mIfS (mOrT (mNotT (mB (mCall (pure2 vIsi) (mCons (mVar 0) (mCons (mC (.v (.ty "str"))) (mNil)))))) (mB (mBin vNotIn (mVar 0) (mTup (mCons (mC (.d (.str "left"))) (mCons (mC (.d (.str "right"))) (mNil))))))) ((fun _ _ => none)) (mSkip)
def F_check_side : Fn := fnD 1 b_check_side
theorem ok_check_side {f : Addr} {fd : FuncData} (F : FunD K "check_side" "check_side" (defArgs st_check_side) (defBody st_check_side) (defScope st_check_side) [] [] f fd) (T : Tx K mg) : FnG P w K mg base CX0 1 f fd ["value"] (spD ⟨K, w⟩ 1 F_check_side) := by
  refine fn_mk F (k := 0) sc_check_side rfl rfl (b := b_check_side) fun cdv A outer s H E hG hr => ?_
  have nd := sc_check_side.nd
  exact ds_one (d_ifS (d_w (d_orT (d_notT (d_valT (d_callB (c_isi) rfl T.f_isinstance b_isinstance (da_cons (d_var 0) (da_cons (d_type rfl T.f_str b_str) (da_nil)))))) (d_or1 (d_cmpT (o_notIn (u65 hr)) (d_var 0) (d_tup (da_cons ((T.c_LEFT.name rfl)) (da_cons ((T.c_RIGHT.name rfl)) (da_nil)))) (by rfl))))) (ds_one (d_never)) (ds_nil))
theorem cal_check_side {f : Addr} {fd : FuncData} (F : FunD K "check_side" "check_side" (defArgs st_check_side) (defBody st_check_side) (defScope st_check_side) [] [] f fd) (hm : mg "check_side" = some (.ref f)) (G : FnG P w K mg base CX0 1 f fd ["value"] (spD ⟨K, w⟩ 1 F_check_side)) : Cal P w K mg base 1 "check_side" 1 F_check_side := Cal.of F hm G rfl (fun _ _ _ _ _ _ us hl => match us, hl with | [_], _ => rfl)
/-! ### lays_of -/
abbrev st_lays_of : Stmt := top 20
abbrev N_lays_of : List Str := ["squares", "who", "down", "across", "pairs", "row", "column", "pair"]
theorem sc_lays_of : FnScope N_lays_of ["squares", "who"] (defScope st_lays_of) := ⟨rfl, rfl, rfl, by decide +kernel, rfl, by decide +kernel, by decide +kernel⟩
def s_lays_of_0 : MS := mAsgG (gTup 2 (gCons (gN 2) (gCons (gN 3) (gNil)))) (mIf (mB (mBin vEq (mVar 1) (mC (.d (.str "left"))))) (mTup (mCons (mInt 1) (mCons (mInt 0) (mNil)))) (mTup (mCons (mInt 0) (mCons (mInt 1) (mNil)))))
def s_lays_of_1 : MS := mAsg 4 (mComp (iS (mVar 0)) (gTup 2 (gCons (gN 5) (gCons (gN 6) (gNil)))) (mYes) (mTup (mCons (mTup (mCons (mVar 5) (mCons (mVar 6) (mNil)))) (mCons (mTup (mCons (mBin vAdd (mVar 5) (mVar 2)) (mCons (mBin vAdd (mVar 6) (mVar 3)) (mNil)))) (mNil)))) [5, 6])
def s_lays_of_2 : MS := mRet (mCall (pure1 vTuple) (mCons (mComp (iS (mVar 4)) (gN 7) (mB (mBin vIn (mBin vIx (mVar 7) (mInt 1)) (mVar 0))) (mVar 7) [7]) (mNil)))
def b_lays_of : MS := mSeq (s_lays_of_0) (mSeq (s_lays_of_1) (s_lays_of_2))
def F_lays_of : Fn := fnD 8 b_lays_of
theorem ok_lays_of {f : Addr} {fd : FuncData} (F : FunD K "lays_of" "lays_of" (defArgs st_lays_of) (defBody st_lays_of) (defScope st_lays_of) [] [] f fd) (T : Tx K mg) : FnG P w K mg base CX0 1 f fd ["squares", "who"] (spD ⟨K, w⟩ 2 F_lays_of) := by
  refine fn_mk F (k := 0) sc_lays_of rfl rfl (b := b_lays_of) fun cdv A outer s H E hG hr => ?_
  have nd := sc_lays_of.nd
  exact ds_cons (d_asg (d_if (d_cmpT (o_eq hr.units) (d_var 1) ((T.c_LEFT.name rfl)) (nomark _)) (d_tup (da_cons (d_int) (da_cons (d_int) (da_nil)))) (d_tup (da_cons (d_int) (da_cons (d_int) (da_nil))))) (dg_tup rfl (dgs_cons (dg_name 2 nd (.inr rfl)) (dgs_cons (dg_name 3 nd (.inr rfl)) (dgs_nil))))) (ds_cons (d_setComp 4 [("row", 5), ("column", 6)] rfl nd rfl rfl (sw_true rfl rfl rfl (by decide +kernel)) (di_seq (d_var 0)) (blkOk_by (by kernel_rfl)) (fun _ _ _ _ _ => dgc_tup rfl (dgcs_cons (dgc_name 5 nd (.inl rfl) rfl (by decide) (.inr rfl)) (dgcs_cons (dgc_name 6 nd (.inl rfl) rfl (by decide) (.inr rfl)) (dgcs_nil)))) (fun _ _ _ _ _ => dts_nil) (fun _ _ _ _ _ => d_tup (da_cons (d_tup (da_cons (d_var 5) (da_cons (d_var 6) (da_nil)))) (da_cons (d_tup (da_cons (d_bin o_add (d_var 5) (d_var 2)) (da_cons (d_bin o_add (d_var 6) (d_var 3)) (da_nil)))) (da_nil))))) (ds_one (d_ret (d_callTy (c_tuple) rfl T.f_tuple b_tuple (da_cons (d_comp [("pair", 7)] rfl nd (di_seq (d_var 4)) (blkOk_by (by kernel_rfl)) (fun _ _ _ _ _ => dgc_name 7 nd (.inl rfl) rfl (by decide) (.inr rfl)) (fun _ _ _ _ _ => dts_one (d_cmpT (o_in (u65 hr)) (d_ix i_ix (d_var 7) (d_int) (fun _ _ => rfl)) (d_var 0) (by rfl))) (fun _ _ _ _ _ => d_var 7)) (da_nil))))))
theorem cal_lays_of {f : Addr} {fd : FuncData} (F : FunD K "lays_of" "lays_of" (defArgs st_lays_of) (defBody st_lays_of) (defScope st_lays_of) [] [] f fd) (hm : mg "lays_of" = some (.ref f)) (G : FnG P w K mg base CX0 1 f fd ["squares", "who"] (spD ⟨K, w⟩ 2 F_lays_of)) : Cal P w K mg base 1 "lays_of" 2 F_lays_of := Cal.of F hm G rfl (fun _ _ _ _ _ _ us hl => match us, hl with | [_, _], _ => rfl)
/-! ### without -/
abbrev st_without : Stmt := top 22
abbrev N_without : List Str := ["squares", "pair", "square"]
theorem sc_without : FnScope N_without ["squares", "pair"] (defScope st_without) := ⟨rfl, rfl, rfl, by decide +kernel, rfl, by decide +kernel, by decide +kernel⟩
def b_without : MS := mRet (mCall (pure1 vTuple) (mCons (mComp (iS (mVar 0)) (gN 2) (mB (mBin vNotIn (mVar 2) (mVar 1))) (mVar 2) [2]) (mNil)))
def F_without : Fn := fnD 3 b_without
theorem ok_without {f : Addr} {fd : FuncData} (F : FunD K "without" "without" (defArgs st_without) (defBody st_without) (defScope st_without) [] [] f fd) (T : Tx K mg) : FnG P w K mg base CX0 1 f fd ["squares", "pair"] (spD ⟨K, w⟩ 2 F_without) := by
  refine fn_mk F (k := 0) sc_without rfl rfl (b := b_without) fun cdv A outer s H E hG hr => ?_
  have nd := sc_without.nd
  exact ds_one (d_ret (d_callTy (c_tuple) rfl T.f_tuple b_tuple (da_cons (d_comp [("square", 2)] rfl nd (di_seq (d_var 0)) (blkOk_by (by kernel_rfl)) (fun _ _ _ _ _ => dgc_name 2 nd (.inl rfl) rfl (by decide) (.inr rfl)) (fun _ _ _ _ _ => dts_one (d_cmpT (o_notIn (u65 hr)) (d_var 2) (d_var 1) (by rfl))) (fun _ _ _ _ _ => d_var 2)) (da_nil))))
theorem cal_without {f : Addr} {fd : FuncData} (F : FunD K "without" "without" (defArgs st_without) (defBody st_without) (defScope st_without) [] [] f fd) (hm : mg "without" = some (.ref f)) (G : FnG P w K mg base CX0 1 f fd ["squares", "pair"] (spD ⟨K, w⟩ 2 F_without)) : Cal P w K mg base 1 "without" 2 F_without := Cal.of F hm G rfl (fun _ _ _ _ _ _ us hl => match us, hl with | [_, _], _ => rfl)
/-! ### beside -/
abbrev st_beside : Stmt := top 23
abbrev N_beside : List Str := ["one", "other"]
theorem sc_beside : FnScope N_beside ["one", "other"] (defScope st_beside) := ⟨rfl, rfl, rfl, by decide +kernel, rfl, by decide +kernel, by decide +kernel⟩
def b_beside : MS := mRet (mBin vEq (mBin vAdd (mCall (pure1 (vInt1 absI)) (mCons (mBin vSub (mBin vIx (mVar 0) (mInt 0)) (mBin vIx (mVar 1) (mInt 0))) (mNil))) (mCall (pure1 (vInt1 absI)) (mCons (mBin vSub (mBin vIx (mVar 0) (mInt 1)) (mBin vIx (mVar 1) (mInt 1))) (mNil)))) (mInt 1))
def F_beside : Fn := fnD 2 b_beside
theorem ok_beside {f : Addr} {fd : FuncData} (F : FunD K "beside" "beside" (defArgs st_beside) (defBody st_beside) (defScope st_beside) [] [] f fd) (T : Tx K mg) : FnG P w K mg base CX0 1 f fd ["one", "other"] (spD ⟨K, w⟩ 2 F_beside) := by
  refine fn_mk F (k := 0) sc_beside rfl rfl (b := b_beside) fun cdv A outer s H E hG hr => ?_
  have nd := sc_beside.nd
  exact ds_one (d_ret (d_cmp (o_eq hr.units) (d_bin o_add (d_callB (c_abs) rfl T.f_abs b_abs (da_cons (d_bin o_sub (d_ix i_ix (d_var 0) (d_int) (fun _ _ => rfl)) (d_ix i_ix (d_var 1) (d_int) (fun _ _ => rfl))) (da_nil))) (d_callB (c_abs) rfl T.f_abs b_abs (da_cons (d_bin o_sub (d_ix i_ix (d_var 0) (d_int) (fun _ _ => rfl)) (d_ix i_ix (d_var 1) (d_int) (fun _ _ => rfl))) (da_nil)))) (d_int) (nomark _)))
theorem cal_beside {f : Addr} {fd : FuncData} (F : FunD K "beside" "beside" (defArgs st_beside) (defBody st_beside) (defScope st_beside) [] [] f fd) (hm : mg "beside" = some (.ref f)) (G : FnG P w K mg base CX0 1 f fd ["one", "other"] (spD ⟨K, w⟩ 2 F_beside)) : Cal P w K mg base 1 "beside" 2 F_beside := Cal.of F hm G rfl (fun _ _ _ _ _ _ us hl => match us, hl with | [_, _], _ => rfl)
/-! ### Seen.__init__ -/
abbrev st_Seen_init : Stmt := stInClass (top 26) 0
abbrev N_Seen_init : List Str := ["self"]
theorem sc_Seen_init : FnScope N_Seen_init ["self"] (defScope st_Seen_init) := ⟨rfl, rfl, rfl, by decide +kernel, rfl, by decide +kernel, by decide +kernel⟩
def b_Seen_init : MS := mSetF "Seen" "own_wins" (mVar 0) (mNewN)
def F_Seen_init : Fn := fnD 1 b_Seen_init
theorem ok_Seen_init {f : Addr} {fd : FuncData} (F : FunD K "__init__" "Seen.__init__" (defArgs st_Seen_init) (defBody st_Seen_init) (defScope st_Seen_init) [] [] f fd) (T : Tx K mg) : FnG P w K mg base CX0 1 f fd ["self"] (spD ⟨K, w⟩ 1 F_Seen_init) := by
  refine fn_mkQ F (k := 0) sc_Seen_init rfl rfl (b := b_Seen_init) fun cdv A outer s H E hG hr => ?_
  have nd := sc_Seen_init.nd
  exact ds_one (d_setF T.k_Seen T.n_Seen_own_wins (d_newN) (d_var 0))
theorem cal_Seen_init {f : Addr} {fd : FuncData} (F : FunD K "__init__" "Seen.__init__" (defArgs st_Seen_init) (defBody st_Seen_init) (defScope st_Seen_init) [] [] f fd) (gl : mg "Seen" = some (.ref (He.ga K "Seen"))) (M : Mk K (He.ga K "Seen") f) (G : FnG P w K mg base CX0 1 f fd ["self"] (spD ⟨K, w⟩ 1 F_Seen_init)) : CalMk P w K mg base 1 "Seen" 1 F_Seen_init := CalMk.of F gl M G rfl (fun _ _ _ _ _ _ us hl => match us, hl with | [_], _ => rfl)
/-! ### _law_pot -/
abbrev st_law_pot : Stmt := top 30
abbrev N_law_pot : List Str := ["script", "place", "cell", "own", "small"]
theorem sc_law_pot : FnScope N_law_pot ["script", "place"] (defScope st_law_pot) := ⟨rfl, rfl, rfl, by decide +kernel, rfl, by decide +kernel, by decide +kernel⟩
def s_law_pot_0 : MS := mAsg 2 (mIf (mB (mBin vLt (mVar 1) (mCall (pure1 vLen) (mCons (mVar 0) (mNil))))) (mBin vIx (mVar 0) (mVar 1)) (mBin vAdd (mBin vAdd (mBin vMod (mCall (pure1 vSum) (mCons (mCut (mVar 0) (mNoP) (mP (mInt 1))) (mNil))) (mInt 1000003)) (mBin vMul (mInt 19407) (mVar 1))) (mInt 6101)))
def s_law_pot_1 : MS := mAsg 3 (mBin vMul (mBin vMod (mCall (pure1 vInt) (mCons (mCall (pure1 (vInt1 absI)) (mCons (mVar 2) (mNil))) (mNil))) (mBin vPow (mBin vPow (mInt 10) (mInt 60)) (mInt 5))) (mCall (pure1 vInt) (mCons (mBin vGe (mCall (pure1 (vInt1 absI)) (mCons (mVar 2) (mNil))) (mBin vPow (mInt 10) (mInt 18))) (mNil))))
def s_law_pot_2 : MS := mAsg 4 (mBin vMod (mCall (pure1 vInt) (mCons (mVar 2) (mNil))) (mInt 2305843009213693951))
def s_law_pot_3 : MS := mRet (mNew (mCons (mVar 3) (mCons (mBin vMod (mCall (pure1 vInt) (mCons (mBin vAdd (mBin vAdd (mBin vMul (mVar 4) (mInt 99597)) (mBin vMul (mBin vMul (mInt 18203) (mVar 1)) (mVar 1))) (mInt 7163)) (mNil))) (mInt 2305843009213693921)) (mCons (mInt 0) (mNil)))))
def b_law_pot : MS := mSeq (s_law_pot_0) (mSeq (s_law_pot_1) (mSeq (s_law_pot_2) (s_law_pot_3)))
def F_law_pot : Fn := fnD 5 b_law_pot
theorem ok_law_pot {f : Addr} {fd : FuncData} (F : FunD K "_law_pot" "_law_pot" (defArgs st_law_pot) (defBody st_law_pot) (defScope st_law_pot) [] [] f fd) (T : Tx K mg) : FnG P w K mg base CX0 1 f fd ["script", "place"] (spD ⟨K, w⟩ 2 F_law_pot) := by
  refine fn_mk F (k := 0) sc_law_pot rfl rfl (b := b_law_pot) fun cdv A outer s H E hG hr => ?_
  have nd := sc_law_pot.nd
  exact ds_cons (d_set 2 nd (.inl rfl) (d_if (d_cmpT o_lt (d_var 1) (d_callB (c_len) rfl T.f_len b_len (da_cons (d_var 0) (da_nil))) (nomark _)) (d_ix i_ix (d_var 0) (d_var 1) (fun _ _ => rfl)) (d_bin o_add (d_bin o_add (d_bin o_mod (d_callB (c_sum rfl) rfl T.f_sum b_sum (da_cons (d_cut (d_var 0) (dp_none) (dp_some (d_int))) (da_nil))) (d_int)) (d_bin o_mul (d_int) (d_var 1))) (d_int)))) (ds_cons (d_set 3 nd (.inl rfl) (d_bin o_mul (d_bin o_mod (d_callTy (c_int) rfl T.f_int b_int (da_cons (d_callB (c_abs) rfl T.f_abs b_abs (da_cons (d_var 2) (da_nil))) (da_nil))) (d_bin o_pow (d_bin o_pow (d_int) (d_int)) (d_int))) (d_callTy (c_int) rfl T.f_int b_int (da_cons (d_cmp o_ge (d_callB (c_abs) rfl T.f_abs b_abs (da_cons (d_var 2) (da_nil))) (d_bin o_pow (d_int) (d_int)) (nomark _)) (da_nil))))) (ds_cons (d_set 4 nd (.inl rfl) (d_bin o_mod (d_callTy (c_int) rfl T.f_int b_int (da_cons (d_var 2) (da_nil))) (d_int))) (ds_one (d_ret (d_new (da_cons (d_var 3) (da_cons (d_bin o_mod (d_callTy (c_int) rfl T.f_int b_int (da_cons (d_bin o_add (d_bin o_add (d_bin o_mul (d_var 4) (d_int)) (d_bin o_mul (d_bin o_mul (d_int) (d_var 1)) (d_var 1))) (d_int)) (da_nil))) (d_int)) (da_cons (d_int) (da_nil)))))))))
theorem cal_law_pot {f : Addr} {fd : FuncData} (F : FunD K "_law_pot" "_law_pot" (defArgs st_law_pot) (defBody st_law_pot) (defScope st_law_pot) [] [] f fd) (hm : mg "_law_pot" = some (.ref f)) (G : FnG P w K mg base CX0 1 f fd ["script", "place"] (spD ⟨K, w⟩ 2 F_law_pot)) : Cal P w K mg base 1 "_law_pot" 2 F_law_pot := Cal.of F hm G rfl (fun _ _ _ _ _ _ us hl => match us, hl with | [_, _], _ => rfl)
/-! ### _law_take -/
abbrev st_law_take : Stmt := top 31
abbrev N_law_take : List Str := ["pot", "upto", "digit", "prime", "blend"]
theorem sc_law_take : FnScope N_law_take ["pot", "upto"] (defScope st_law_take) := ⟨rfl, rfl, rfl, by decide +kernel, rfl, by decide +kernel, by decide +kernel⟩
def s_law_take_0 : MS := mAsg 2 (mBin vMod (mCall (pure1 vInt) (mCons (mBin vIx (mVar 0) (mInt 0)) (mNil))) (mVar 1))
def s_law_take_1 : MS := mSetI vSetI (mVar 0) (mInt 0) (mBin vFdiv (mBin vIx (mVar 0) (mInt 0)) (mVar 1))
def s_law_take_2 : MS := mIfS (mB (mBin vGt (mBin vIx (mVar 0) (mInt 0)) (mInt 0))) (mSeq (s_law_take_0) (mSeq (s_law_take_1) (mRet (mVar 2)))) (mSkip)
def s_law_take_3 : MS := mSetI vSetI (mVar 0) (mInt 2) (mBin vAdd (mBin vIx (mVar 0) (mInt 2)) (mInt 1))
def s_law_take_4 : MS := mAsg 3 (mBin vIx (mLst (mCons (mInt 2147483647) (mCons (mInt 2147483629) (mCons (mInt 2147483587) (mCons (mInt 2147483579) (mCons (mInt 2147483563) (mNil))))))) (mBin vMod (mCall (pure1 vInt) (mCons (mBin vIx (mVar 0) (mInt 2)) (mNil))) (mInt 5)))
def s_law_take_5 : MS := mAsg 4 (mBin vMod (mCall (pure1 vInt) (mCons (mBin vPow (mCall (pure1 vInt) (mCons (mBin vAdd (mBin vAdd (mBin vIx (mVar 0) (mInt 1)) (mBin vMul (mBin vMul (mInt 111077) (mBin vIx (mVar 0) (mInt 2))) (mBin vIx (mVar 0) (mInt 2)))) (mInt 3829)) (mNil))) (mInt 3)) (mNil))) (mVar 3))
def s_law_take_6 : MS := mAsg 4 (mBin vMod (mCall (pure1 vInt) (mCons (mBin vMul (mVar 4) (mBin vAdd (mBin vMod (mCall (pure1 vInt) (mCons (mVar 4) (mNil))) (mInt 21951)) (mBin vMul (mInt 2375) (mBin vIx (mVar 0) (mInt 2))))) (mNil))) (mInt 2305843009213693907))
def s_law_take_7 : MS := mRet (mBin vMod (mCall (pure1 vInt) (mCons (mBin vFdiv (mVar 4) (mInt 5701)) (mNil))) (mVar 1))
def b_law_take : MS := mSeq (s_law_take_2) (mSeq (s_law_take_3) (mSeq (s_law_take_4) (mSeq (s_law_take_5) (mSeq (s_law_take_6) (s_law_take_7)))))
def F_law_take : Fn := fnD 5 b_law_take
theorem ok_law_take {f : Addr} {fd : FuncData} (F : FunD K "_law_take" "_law_take" (defArgs st_law_take) (defBody st_law_take) (defScope st_law_take) [] [] f fd) (T : Tx K mg) : FnG P w K mg base CX0 1 f fd ["pot", "upto"] (spD ⟨K, w⟩ 2 F_law_take) := by
  refine fn_mk F (k := 0) sc_law_take rfl rfl (b := b_law_take) fun cdv A outer s H E hG hr => ?_
  have nd := sc_law_take.nd
  exact ds_cons (d_ifS (d_cmpT o_gt (d_ix i_ix (d_var 0) (d_int) (fun _ _ => rfl)) (d_int) (nomark _)) (ds_cons (d_set 2 nd (.inl rfl) (d_bin o_mod (d_callTy (c_int) rfl T.f_int b_int (da_cons (d_ix i_ix (d_var 0) (d_int) (fun _ _ => rfl)) (da_nil))) (d_var 1))) (ds_cons (d_setI (d_bin o_fdiv (d_ix i_ix (d_var 0) (d_int) (fun _ _ => rfl)) (d_var 1)) (d_var 0) (d_int) (s_setI (hu_of hr))) (ds_one (d_ret (d_var 2))))) (ds_nil)) (ds_cons (d_setI (d_bin o_add (d_ix i_ix (d_var 0) (d_int) (fun _ _ => rfl)) (d_int)) (d_var 0) (d_int) (s_setI (hu_of hr))) (ds_cons (d_set 3 nd (.inl rfl) (d_ix i_ix (d_lst (da_cons (d_int) (da_cons (d_int) (da_cons (d_int) (da_cons (d_int) (da_cons (d_int) (da_nil))))))) (d_bin o_mod (d_callTy (c_int) rfl T.f_int b_int (da_cons (d_ix i_ix (d_var 0) (d_int) (fun _ _ => rfl)) (da_nil))) (d_int)) (fun _ _ => rfl))) (ds_cons (d_set 4 nd (.inl rfl) (d_bin o_mod (d_callTy (c_int) rfl T.f_int b_int (da_cons (d_bin o_pow (d_callTy (c_int) rfl T.f_int b_int (da_cons (d_bin o_add (d_bin o_add (d_ix i_ix (d_var 0) (d_int) (fun _ _ => rfl)) (d_bin o_mul (d_bin o_mul (d_int) (d_ix i_ix (d_var 0) (d_int) (fun _ _ => rfl))) (d_ix i_ix (d_var 0) (d_int) (fun _ _ => rfl)))) (d_int)) (da_nil))) (d_int)) (da_nil))) (d_var 3))) (ds_cons (d_set 4 nd (.inl rfl) (d_bin o_mod (d_callTy (c_int) rfl T.f_int b_int (da_cons (d_bin o_mul (d_var 4) (d_bin o_add (d_bin o_mod (d_callTy (c_int) rfl T.f_int b_int (da_cons (d_var 4) (da_nil))) (d_int)) (d_bin o_mul (d_int) (d_ix i_ix (d_var 0) (d_int) (fun _ _ => rfl))))) (da_nil))) (d_int))) (ds_one (d_ret (d_bin o_mod (d_callTy (c_int) rfl T.f_int b_int (da_cons (d_bin o_fdiv (d_var 4) (d_int)) (da_nil))) (d_var 1))))))))
theorem cal_law_take {f : Addr} {fd : FuncData} (F : FunD K "_law_take" "_law_take" (defArgs st_law_take) (defBody st_law_take) (defScope st_law_take) [] [] f fd) (hm : mg "_law_take" = some (.ref f)) (G : FnG P w K mg base CX0 1 f fd ["pot", "upto"] (spD ⟨K, w⟩ 2 F_law_take)) : Cal P w K mg base 1 "_law_take" 2 F_law_take := Cal.of F hm G rfl (fun _ _ _ _ _ _ us hl => match us, hl with | [_, _], _ => rfl)
/-! ### _law_cells -/
abbrev st_law_cells : Stmt := top 32
abbrev N_law_cells : List Str := ["script", "most"]
theorem sc_law_cells : FnScope N_law_cells ["script", "most"] (defScope st_law_cells) := ⟨rfl, rfl, rfl, by decide +kernel, rfl, by decide +kernel, by decide +kernel⟩
def b_law_cells : MS := mRet (mListR (rg1 (mCall (pure2 (vInt22 maxI)) (mCons (mInt 1) (mCons (mCall (pure2 (vInt22 minI)) (mCons (mVar 1) (mCons (mCall (pure1 vLen) (mCons (mVar 0) (mNil))) (mNil)))) (mNil))))))
def F_law_cells : Fn := fnD 2 b_law_cells
theorem ok_law_cells {f : Addr} {fd : FuncData} (F : FunD K "_law_cells" "_law_cells" (defArgs st_law_cells) (defBody st_law_cells) (defScope st_law_cells) [] [] f fd) (T : Tx K mg) : FnG P w K mg base CX0 1 f fd ["script", "most"] (spD ⟨K, w⟩ 2 F_law_cells) := by
  refine fn_mk F (k := 0) sc_law_cells rfl rfl (b := b_law_cells) fun cdv A outer s H E hG hr => ?_
  have nd := sc_law_cells.nd
  exact ds_one (d_ret (d_listR rfl rfl T.f_list (dr_1 rfl T.f_range (d_callB (c_max2 rfl) rfl T.f_max b_max (da_cons (d_int) (da_cons (d_callB (c_min2 rfl) rfl T.f_min b_min (da_cons (d_var 1) (da_cons (d_callB (c_len) rfl T.f_len b_len (da_cons (d_var 0) (da_nil))) (da_nil)))) (da_nil)))))))
theorem cal_law_cells {f : Addr} {fd : FuncData} (F : FunD K "_law_cells" "_law_cells" (defArgs st_law_cells) (defBody st_law_cells) (defScope st_law_cells) [] [] f fd) (hm : mg "_law_cells" = some (.ref f)) (G : FnG P w K mg base CX0 1 f fd ["script", "most"] (spD ⟨K, w⟩ 2 F_law_cells)) : Cal P w K mg base 1 "_law_cells" 2 F_law_cells := Cal.of F hm G rfl (fun _ _ _ _ _ _ us hl => match us, hl with | [_, _], _ => rfl)
/-! ### _law_lays -/
abbrev st_law_lays : Stmt := top 34
abbrev N_law_lays : List Str := ["squares", "who", "found", "row", "column", "other"]
theorem sc_law_lays : FnScope N_law_lays ["squares", "who"] (defScope st_law_lays) := ⟨rfl, rfl, rfl, by decide +kernel, rfl, by decide +kernel, by decide +kernel⟩
def s_law_lays_0 : MS := mAsg 5 (mIf (mB (mBin vEq (mVar 1) (mStr "left"))) (mTup (mCons (mBin vAdd (mVar 3) (mInt 1)) (mCons (mVar 4) (mNil)))) (mTup (mCons (mVar 3) (mCons (mBin vAdd (mVar 4) (mInt 1)) (mNil)))))
def s_law_lays_1 : MS := mExpr (mMeth isLoc gExtend (mVar 2) (mCons (mIf (mB (mBin vIn (mVar 5) (mVar 0))) (mLst (mCons (mTup (mCons (mTup (mCons (mVar 3) (mCons (mVar 4) (mNil)))) (mCons (mVar 5) (mNil)))) (mNil))) (mLst (mNil))) (mNil)))
def s_law_lays_2 : MS := mFor (iS (mVar 0)) (gTup 2 (gCons (gN 3) (gCons (gN 4) (gNil)))) (mSeq (s_law_lays_0) (s_law_lays_1))
def s_law_lays_3 : MS := mRet (mCall (pure1 vSorted) (mCons (mVar 2) (mNil)))
def b_law_lays : MS := mSeq (mAsg 2 (mNew (mNil))) (mSeq (s_law_lays_2) (mSeq (mFrzV 2) (s_law_lays_3)))
def F_law_lays : Fn := fnD 6 b_law_lays
theorem ok_law_lays {f : Addr} {fd : FuncData} (F : FunD K "_law_lays" "_law_lays" (defArgs st_law_lays) (defBody st_law_lays) (defScope st_law_lays) [] [] f fd) (T : Tx K mg) : FnG P w K mg base CX0 1 f fd ["squares", "who"] (spD ⟨K, w⟩ 2 F_law_lays) := by
  refine fn_mk F (k := 0) sc_law_lays rfl rfl (b := b_law_lays) fun cdv A outer s H E hG hr => ?_
  have nd := sc_law_lays.nd
  exact ds_cons (d_set 2 nd (.inl rfl) (d_new (da_nil))) (ds_cons (d_for PassesOwn.never rfl (di_seq (d_var 0)) (dg_tup rfl (dgs_cons (dg_name 3 nd (.inl rfl)) (dgs_cons (dg_name 4 nd (.inl rfl)) (dgs_nil)))) (ds_cons (d_set 5 nd (.inl rfl) (d_if (d_cmpT (o_eq hr.units) (d_var 1) (d_str) (nomark _)) (d_tup (da_cons (d_bin o_add (d_var 3) (d_int)) (da_cons (d_var 4) (da_nil)))) (d_tup (da_cons (d_var 3) (da_cons (d_bin o_add (d_var 4) (d_int)) (da_nil)))))) (ds_one (d_expr (d_meth PySem.F.plainAttrs_list PySem.F.slot_list_extend PySem.F.type_list_extend t_extend ty_list (d_var 2) (da_cons (d_if (d_cmpT (o_in (u65 hr)) (d_var 5) (d_var 0) (by rfl)) (d_lst (da_cons (d_tup (da_cons (d_tup (da_cons (d_var 3) (da_cons (d_var 4) (da_nil)))) (da_cons (d_var 5) (da_nil)))) (da_nil))) (d_lst (da_nil))) (da_nil))))))) (ds_frz (ds_one (d_ret (d_callB (c_sorted rfl (u70 hr)) rfl T.f_sorted b_sorted (da_cons (d_var 2) (da_nil)))))))
theorem cal_law_lays {f : Addr} {fd : FuncData} (F : FunD K "_law_lays" "_law_lays" (defArgs st_law_lays) (defBody st_law_lays) (defScope st_law_lays) [] [] f fd) (hm : mg "_law_lays" = some (.ref f)) (G : FnG P w K mg base CX0 1 f fd ["squares", "who"] (spD ⟨K, w⟩ 2 F_law_lays)) : Cal P w K mg base 1 "_law_lays" 2 F_law_lays := Cal.of F hm G rfl (fun _ _ _ _ _ _ us hl => match us, hl with | [_, _], _ => rfl)
/-! ### _law_left -/
abbrev st_law_left : Stmt := top 35
abbrev N_law_left : List Str := ["squares", "pair", "square"]
theorem sc_law_left : FnScope N_law_left ["squares", "pair"] (defScope st_law_left) := ⟨rfl, rfl, rfl, by decide +kernel, rfl, by decide +kernel, by decide +kernel⟩
def b_law_left : MS := mRet (mCall (pure1 vTuple) (mCons (mComp (iS (mVar 0)) (gN 2) (mB (mBin vNotIn (mVar 2) (mVar 1))) (mVar 2) [2]) (mNil)))
def F_law_left : Fn := fnD 3 b_law_left
theorem ok_law_left {f : Addr} {fd : FuncData} (F : FunD K "_law_left" "_law_left" (defArgs st_law_left) (defBody st_law_left) (defScope st_law_left) [] [] f fd) (T : Tx K mg) : FnG P w K mg base CX0 1 f fd ["squares", "pair"] (spD ⟨K, w⟩ 2 F_law_left) := by
  refine fn_mk F (k := 0) sc_law_left rfl rfl (b := b_law_left) fun cdv A outer s H E hG hr => ?_
  have nd := sc_law_left.nd
  exact ds_one (d_ret (d_callTy (c_tuple) rfl T.f_tuple b_tuple (da_cons (d_comp [("square", 2)] rfl nd (di_seq (d_var 0)) (blkOk_by (by kernel_rfl)) (fun _ _ _ _ _ => dgc_name 2 nd (.inl rfl) rfl (by decide) (.inr rfl)) (fun _ _ _ _ _ => dts_one (d_cmpT (o_notIn (u65 hr)) (d_var 2) (d_var 1) (by rfl))) (fun _ _ _ _ _ => d_var 2)) (da_nil))))
theorem cal_law_left {f : Addr} {fd : FuncData} (F : FunD K "_law_left" "_law_left" (defArgs st_law_left) (defBody st_law_left) (defScope st_law_left) [] [] f fd) (hm : mg "_law_left" = some (.ref f)) (G : FnG P w K mg base CX0 1 f fd ["squares", "pair"] (spD ⟨K, w⟩ 2 F_law_left)) : Cal P w K mg base 1 "_law_left" 2 F_law_left := Cal.of F hm G rfl (fun _ _ _ _ _ _ us hl => match us, hl with | [_, _], _ => rfl)
/-! ### _law_other -/
abbrev st_law_other : Stmt := top 36
abbrev N_law_other : List Str := ["who"]
theorem sc_law_other : FnScope N_law_other ["who"] (defScope st_law_other) := ⟨rfl, rfl, rfl, by decide +kernel, rfl, by decide +kernel, by decide +kernel⟩
def b_law_other : MS := mRet (mIf (mB (mBin vEq (mVar 0) (mStr "left"))) (mStr "right") (mStr "left"))
def F_law_other : Fn := fnD 1 b_law_other
theorem ok_law_other {f : Addr} {fd : FuncData} (F : FunD K "_law_other" "_law_other" (defArgs st_law_other) (defBody st_law_other) (defScope st_law_other) [] [] f fd) : FnG P w K mg base CX0 1 f fd ["who"] (spD ⟨K, w⟩ 1 F_law_other) := by
  refine fn_mk F (k := 0) sc_law_other rfl rfl (b := b_law_other) fun cdv A outer s H E hG hr => ?_
  have nd := sc_law_other.nd
  exact ds_one (d_ret (d_if (d_cmpT (o_eq hr.units) (d_var 0) (d_str) (nomark _)) (d_str) (d_str)))
theorem cal_law_other {f : Addr} {fd : FuncData} (F : FunD K "_law_other" "_law_other" (defArgs st_law_other) (defBody st_law_other) (defScope st_law_other) [] [] f fd) (hm : mg "_law_other" = some (.ref f)) (G : FnG P w K mg base CX0 1 f fd ["who"] (spD ⟨K, w⟩ 1 F_law_other)) : Cal P w K mg base 1 "_law_other" 1 F_law_other := Cal.of F hm G rfl (fun _ _ _ _ _ _ us hl => match us, hl with | [_], _ => rfl)
/-! ### _law_parts -/
abbrev st_law_parts : Stmt := top 39
abbrev N_law_parts : List Str := ["squares", "found", "rest", "part", "at", "near", "row", "column", "square"]
theorem sc_law_parts : FnScope N_law_parts ["squares"] (defScope st_law_parts) := ⟨rfl, rfl, rfl, by decide +kernel, rfl, by decide +kernel, by decide +kernel⟩
def s_law_parts_0 : MS := mPar2 1 2 (mCons (mNew (mNil)) (mCons (mCall (pure1 vList) (mCons (mVar 0) (mNil))) (mNil)))
def s_law_parts_1 : MS := mPar2 3 4 (mCons (mNew (mCons (mBin vIx (mVar 2) (mInt 0)) (mNil))) (mCons (mInt 0) (mNil)))
def s_law_parts_2 : MS := mAsgG (gTup 2 (gCons (gN 6) (gCons (gN 7) (gNil)))) (mBin vIx (mVar 3) (mVar 4))
def s_law_parts_3 : MS := mAsg 5 (mLst (mCons (mTup (mCons (mBin vAdd (mVar 6) (mInt 1)) (mCons (mVar 7) (mNil)))) (mCons (mTup (mCons (mBin vSub (mVar 6) (mInt 1)) (mCons (mVar 7) (mNil)))) (mCons (mTup (mCons (mVar 6) (mCons (mBin vAdd (mVar 7) (mInt 1)) (mNil)))) (mCons (mTup (mCons (mVar 6) (mCons (mBin vSub (mVar 7) (mInt 1)) (mNil)))) (mNil))))))
def s_law_parts_4 : MS := mExpr (mMeth isLoc gExtend (mVar 3) (mCons (mComp (iS (mVar 5)) (gN 8) (mAndT (mB (mBin vIn (mVar 8) (mVar 2))) (mB (mBin vNotIn (mVar 8) (mVar 3)))) (mVar 8) [8]) (mNil)))
def c_law_parts_5 : MT := mB (mBin vLt (mVar 4) (mCall (pure1 vLen) (mCons (mVar 3) (mNil))))
def l_law_parts_6 : MS := mSeq (s_law_parts_2) (mSeq (s_law_parts_3) (mSeq (s_law_parts_4) (mAsg 4 (mBin vAdd (mVar 4) (mInt 1)))))
def s_law_parts_7 : MS := whileM (c_law_parts_5) (l_law_parts_6) 20
def s_law_parts_8 : MS := mExpr (mMeth isLoc gAppend (mVar 1) (mCons (mCall (pure1 vTuple) (mCons (mCall (pure1 vSorted) (mCons (mVar 3) (mNil))) (mNil))) (mNil)))
def s_law_parts_9 : MS := mAsg 2 (mComp (iS (mVar 2)) (gN 8) (mB (mBin vNotIn (mVar 8) (mVar 3))) (mVar 8) [8])
def l_law_parts_10 : MS := mSeq (s_law_parts_1) (mSeq (s_law_parts_7) (mSeq (mFrzV 3) (mSeq (s_law_parts_8) (s_law_parts_9))))
def s_law_parts_11 : MS := whileM (mB (mBin vNe (mVar 2) (mLst (mNil)))) (l_law_parts_10) 20
def s_law_parts_12 : MS := mRet (mCall (pure1 vTuple) (mCons (mVar 1) (mNil)))
def b_law_parts : MS := mSeq (s_law_parts_0) (mSeq (s_law_parts_11) (mSeq (mFrzV 1) (s_law_parts_12)))
def F_law_parts : Fn := fnD 9 b_law_parts
theorem ok_law_parts {f : Addr} {fd : FuncData} (F : FunD K "_law_parts" "_law_parts" (defArgs st_law_parts) (defBody st_law_parts) (defScope st_law_parts) [] [] f fd) (T : Tx K mg) : FnG P w K mg base CX0 1 f fd ["squares"] (spD ⟨K, w⟩ 1 F_law_parts) := by
  refine fn_mk F (k := 0) sc_law_parts rfl rfl (b := b_law_parts) fun cdv A outer s H E hG hr => ?_
  have nd := sc_law_parts.nd
  exact ds_cons (d_par2c 1 2 rfl nd (.inl rfl) (.inr rfl) (da_cons (d_new (da_nil)) (da_cons (d_callTy (c_list) rfl T.f_list b_list (da_cons (d_var 0) (da_nil))) (da_nil)))) (ds_cons (d_while 20 PassesOwn.never (d_cmpT (o_ne hr.units) (d_var 2) (d_lst (da_nil)) (nomark _)) (ds_cons (d_par2c 3 4 rfl nd (.inr rfl) (.inl rfl) (da_cons (d_new (da_cons (d_ix i_ix (d_var 2) (d_int) (fun _ _ => rfl)) (da_nil))) (da_cons (d_int) (da_nil)))) (ds_cons (d_while 20 PassesOwn.never (d_cmpT o_lt (d_var 4) (d_callB (c_len) rfl T.f_len b_len (da_cons (d_var 3) (da_nil))) (nomark _)) (ds_cons (d_asg (d_ix i_ix (d_var 3) (d_var 4) (fun _ _ => rfl)) (dg_tup rfl (dgs_cons (dg_name 6 nd (.inl rfl)) (dgs_cons (dg_name 7 nd (.inl rfl)) (dgs_nil))))) (ds_cons (d_set 5 nd (.inl rfl) (d_lst (da_cons (d_tup (da_cons (d_bin o_add (d_var 6) (d_int)) (da_cons (d_var 7) (da_nil)))) (da_cons (d_tup (da_cons (d_bin o_sub (d_var 6) (d_int)) (da_cons (d_var 7) (da_nil)))) (da_cons (d_tup (da_cons (d_var 6) (da_cons (d_bin o_add (d_var 7) (d_int)) (da_nil)))) (da_cons (d_tup (da_cons (d_var 6) (da_cons (d_bin o_sub (d_var 7) (d_int)) (da_nil)))) (da_nil))))))) (ds_cons (d_expr (d_meth PySem.F.plainAttrs_list PySem.F.slot_list_extend PySem.F.type_list_extend t_extend ty_list (d_var 3) (da_cons (d_comp [("square", 8)] rfl nd (di_seq (d_var 5)) (blkOk_by (by kernel_rfl)) (fun _ _ _ _ _ => dgc_name 8 nd (.inl rfl) rfl (by decide) (.inr rfl)) (fun _ _ _ _ _ => dts_one (d_w (d_andT (d_cmpT (o_in (u65 hr)) (d_var 8) (d_var 2) (by rfl)) (d_and1 (d_cmpT (o_notIn (u65 hr)) (d_var 8) (d_var 3) (by rfl)))))) (fun _ _ _ _ _ => d_var 8)) (da_nil)))) (ds_one (d_set 4 nd (.inl rfl) (d_bin o_add (d_var 4) (d_int)))))))) (ds_frz (ds_cons (d_expr (d_meth PySem.F.plainAttrs_list PySem.F.slot_list_append PySem.F.type_list_append t_append ty_list (d_var 1) (da_cons (d_callTy (c_tuple) rfl T.f_tuple b_tuple (da_cons (d_callB (c_sorted rfl (u70 hr)) rfl T.f_sorted b_sorted (da_cons (d_var 3) (da_nil))) (da_nil))) (da_nil)))) (ds_one (d_set 2 nd (.inr rfl) (d_comp [("square", 8)] rfl nd (di_seq (d_var 2)) (blkOk_by (by kernel_rfl)) (fun _ _ _ _ _ => dgc_name 8 nd (.inl rfl) rfl (by decide) (.inr rfl)) (fun _ _ _ _ _ => dts_one (d_cmpT (o_notIn (u65 hr)) (d_var 8) (d_var 3) (by rfl))) (fun _ _ _ _ _ => d_var 8))))))))) (ds_frz (ds_one (d_ret (d_callTy (c_tuple) rfl T.f_tuple b_tuple (da_cons (d_var 1) (da_nil)))))))
theorem cal_law_parts {f : Addr} {fd : FuncData} (F : FunD K "_law_parts" "_law_parts" (defArgs st_law_parts) (defBody st_law_parts) (defScope st_law_parts) [] [] f fd) (hm : mg "_law_parts" = some (.ref f)) (G : FnG P w K mg base CX0 1 f fd ["squares"] (spD ⟨K, w⟩ 1 F_law_parts)) : Cal P w K mg base 1 "_law_parts" 1 F_law_parts := Cal.of F hm G rfl (fun _ _ _ _ _ _ us hl => match us, hl with | [_], _ => rfl)
/-! ### is_between -/
abbrev st_is_between : Stmt := top 6
abbrev N_is_between : List Str := ["value", "least", "most"]
theorem sc_is_between : FnScope N_is_between ["value", "least", "most"] (defScope st_is_between) := ⟨rfl, rfl, rfl, by decide +kernel, rfl, by decide +kernel, by decide +kernel⟩
def b_is_between : MS := mRet (mAnd (mCallF 1 F_is_integer (mCons (mVar 0) (mNil))) (mChain vLe vLe (mVar 1) (mVar 0) (mVar 2)))
def F_is_between : Fn := fnD 3 b_is_between
theorem ok_is_between {f : Addr} {fd : FuncData} (F : FunD K "is_between" "is_between" (defArgs st_is_between) (defBody st_is_between) (defScope st_is_between) [] [] f fd) (C_is_integer : Cal P w K mg base 1 "is_integer" 1 F_is_integer) : FnG P w K mg base CX0 2 f fd ["value", "least", "most"] (spD ⟨K, w⟩ 3 F_is_between) := by
  refine fn_mk F (k := 1) sc_is_between rfl rfl (b := b_is_between) fun cdv A outer s H E hG hr => ?_
  have nd := sc_is_between.nd
  exact ds_one (d_ret (d_and (C_is_integer.call hG (hr.mono (by decide)) rfl (da_cons (d_var 0) (da_nil))) (d_one (d_chain o_le o_le (d_var 1) (d_var 0) (d_var 2)))))
theorem cal_is_between {f : Addr} {fd : FuncData} (F : FunD K "is_between" "is_between" (defArgs st_is_between) (defBody st_is_between) (defScope st_is_between) [] [] f fd) (hm : mg "is_between" = some (.ref f)) (G : FnG P w K mg base CX0 2 f fd ["value", "least", "most"] (spD ⟨K, w⟩ 3 F_is_between)) : Cal P w K mg base 2 "is_between" 3 F_is_between := Cal.of F hm G rfl (fun _ _ _ _ _ _ us hl => match us, hl with | [_, _, _], _ => rfl)
/-! ### parts_of -/
abbrev st_parts_of : Stmt := top 24
abbrev N_parts_of : List Str := ["squares", "found", "rest", "part", "waiting", "here", "some", "square"]
theorem sc_parts_of : FnScope N_parts_of ["squares"] (defScope st_parts_of) := ⟨rfl, rfl, rfl, by decide +kernel, rfl, by decide +kernel, by decide +kernel⟩
def s_parts_of_0 : MS := mPar2 1 2 (mCons (mNew (mNil)) (mCons (mCall (pure1 vList) (mCons (mVar 0) (mNil))) (mNil)))
def s_parts_of_1 : MS := mPar2 3 4 (mCons (mNew (mCons (mBin vIx (mVar 2) (mInt 0)) (mNil))) (mCons (mNew (mCons (mBin vIx (mVar 2) (mInt 0)) (mNil))) (mNil)))
def s_parts_of_2 : MS := mAsg 6 (mComp (iS (mVar 2)) (gN 7) (mAndT (mB (mBin vNotIn (mVar 7) (mVar 3))) (mB (mCallF 2 F_beside (mCons (mVar 5) (mCons (mVar 7) (mNil)))))) (mVar 7) [7])
def s_parts_of_3 : MS := mExpr (mMeth isLoc gExtend (mVar 3) (mCons (mVar 6) (mNil)))
def s_parts_of_4 : MS := mExpr (mMeth isLoc gExtend (mVar 4) (mCons (mVar 6) (mNil)))
def l_parts_of_5 : MS := mSeq (mAsg 5 (mMeth isLoc gPop (mVar 4) mNil)) (mSeq (s_parts_of_2) (mSeq (s_parts_of_3) (s_parts_of_4)))
def s_parts_of_6 : MS := whileM (mB (mBin vNe (mVar 4) (mLst (mNil)))) (l_parts_of_5) 20
def s_parts_of_7 : MS := mExpr (mMeth isLoc gAppend (mVar 1) (mCons (mCall (pure1 vTuple) (mCons (mCall (pure1 vSorted) (mCons (mVar 3) (mNil))) (mNil))) (mNil)))
def s_parts_of_8 : MS := mAsg 2 (mComp (iS (mVar 2)) (gN 7) (mB (mBin vNotIn (mVar 7) (mVar 3))) (mVar 7) [7])
def l_parts_of_9 : MS := mSeq (s_parts_of_1) (mSeq (s_parts_of_6) (mSeq (mFrzV 3) (mSeq (s_parts_of_7) (s_parts_of_8))))
def s_parts_of_10 : MS := whileM (mB (mBin vNe (mVar 2) (mLst (mNil)))) (l_parts_of_9) 20
def s_parts_of_11 : MS := mRet (mCall (pure1 vTuple) (mCons (mVar 1) (mNil)))
def b_parts_of : MS := mSeq (s_parts_of_0) (mSeq (s_parts_of_10) (mSeq (mFrzV 1) (s_parts_of_11)))
def F_parts_of : Fn := fnD 8 b_parts_of
theorem ok_parts_of {f : Addr} {fd : FuncData} (F : FunD K "parts_of" "parts_of" (defArgs st_parts_of) (defBody st_parts_of) (defScope st_parts_of) [] [] f fd) (T : Tx K mg) (C_beside : Cal P w K mg base 1 "beside" 2 F_beside) : FnG P w K mg base CX0 2 f fd ["squares"] (spD ⟨K, w⟩ 1 F_parts_of) := by
  refine fn_mk F (k := 1) sc_parts_of rfl rfl (b := b_parts_of) fun cdv A outer s H E hG hr => ?_
  have nd := sc_parts_of.nd
  exact ds_cons (d_par2 1 2 rfl nd rfl rfl (da_cons (d_new (da_nil)) (da_cons (d_callTy (c_list) rfl T.f_list b_list (da_cons (d_var 0) (da_nil))) (da_nil))) rfl) (ds_cons (d_while 20 PassesOwn.never (d_cmpT (o_ne hr.units) (d_var 2) (d_lst (da_nil)) (nomark _)) (ds_cons (d_par2c 3 4 rfl nd (.inr rfl) (.inl rfl) (da_cons (d_new (da_cons (d_ix i_ix (d_var 2) (d_int) (fun _ _ => rfl)) (da_nil))) (da_cons (d_new (da_cons (d_ix i_ix (d_var 2) (d_int) (fun _ _ => rfl)) (da_nil))) (da_nil)))) (ds_cons (d_while 20 PassesOwn.never (d_cmpT (o_ne hr.units) (d_var 4) (d_lst (da_nil)) (nomark _)) (ds_cons (d_set 5 nd (.inr rfl) (d_meth0 PySem.F.plainAttrs_list PySem.F.slot_list_pop PySem.F.type_list_pop t_pop ty_list (d_var 4))) (ds_cons (d_setComp 6 [("square", 7)] rfl nd rfl rfl (sw_true rfl rfl rfl (by decide +kernel)) (di_seq (d_var 2)) (blkOk_by (by kernel_rfl)) (fun _ _ _ _ _ => dgc_name 7 nd (.inl rfl) rfl (by decide) (.inr rfl)) (fun _ _ _ _ _ => dts_one (d_w (d_andT (d_cmpT (o_notIn (u65 hr)) (d_var 7) (d_var 3) (by rfl)) (d_and1 (d_valT (C_beside.call hG (hr.mono (by decide)) rfl (da_cons (d_var 5) (da_cons (d_var 7) (da_nil))))))))) (fun _ _ _ _ _ => d_var 7)) (ds_cons (d_expr (d_meth PySem.F.plainAttrs_list PySem.F.slot_list_extend PySem.F.type_list_extend t_extend ty_list (d_var 3) (da_cons (d_var 6) (da_nil)))) (ds_one (d_expr (d_meth PySem.F.plainAttrs_list PySem.F.slot_list_extend PySem.F.type_list_extend t_extend ty_list (d_var 4) (da_cons (d_var 6) (da_nil))))))))) (ds_frz (ds_cons (d_expr (d_meth PySem.F.plainAttrs_list PySem.F.slot_list_append PySem.F.type_list_append t_append ty_list (d_var 1) (da_cons (d_callTy (c_tuple) rfl T.f_tuple b_tuple (da_cons (d_callB (c_sorted rfl (u70 hr)) rfl T.f_sorted b_sorted (da_cons (d_var 3) (da_nil))) (da_nil))) (da_nil)))) (ds_one (d_setComp 2 [("square", 7)] rfl nd rfl rfl (sw_true rfl rfl rfl (by decide +kernel)) (di_seq (d_var 2)) (blkOk_by (by kernel_rfl)) (fun _ _ _ _ _ => dgc_name 7 nd (.inl rfl) rfl (by decide) (.inr rfl)) (fun _ _ _ _ _ => dts_one (d_cmpT (o_notIn (u65 hr)) (d_var 7) (d_var 3) (by rfl))) (fun _ _ _ _ _ => d_var 7)))))))) (ds_frz (ds_one (d_ret (d_callTy (c_tuple) rfl T.f_tuple b_tuple (da_cons (d_var 1) (da_nil)))))))
theorem cal_parts_of {f : Addr} {fd : FuncData} (F : FunD K "parts_of" "parts_of" (defArgs st_parts_of) (defBody st_parts_of) (defScope st_parts_of) [] [] f fd) (hm : mg "parts_of" = some (.ref f)) (G : FnG P w K mg base CX0 2 f fd ["squares"] (spD ⟨K, w⟩ 1 F_parts_of)) : Cal P w K mg base 2 "parts_of" 1 F_parts_of := Cal.of F hm G rfl (fun _ _ _ _ _ _ us hl => match us, hl with | [_], _ => rfl)
/-! ### Seen.wins -/
abbrev st_Seen_wins : Stmt := stInClass (top 26) 1
abbrev N_Seen_wins : List Str := ["self", "squares", "who", "key", "other", "there", "pair", "one"]
theorem sc_Seen_wins : FnScope N_Seen_wins ["self", "squares", "who"] (defScope st_Seen_wins) := ⟨rfl, rfl, rfl, by decide +kernel, rfl, by decide +kernel, by decide +kernel⟩
def s_Seen_wins_0 (self : Fn) : MS := mAsg 3 (mTup (mCons (mVar 1) (mCons (mVar 2) (mNil))))
def s_Seen_wins_1 (self : Fn) : MS := mAsg 4 (mIf (mB (mBin vEq (mVar 2) (mC (.d (.str "left"))))) (mC (.d (.str "right"))) (mC (.d (.str "left"))))
def s_Seen_wins_2 (self : Fn) : MS := mAsg 5 (mComp (iT (mCallF 2 F_lays_of (mCons (mVar 1) (mCons (mVar 2) (mNil))))) (gN 6) (mYes) (mCallF 2 F_without (mCons (mVar 1) (mCons (mVar 6) (mNil)))) [6])
def s_Seen_wins_3 (self : Fn) : MS := mSetI vNSet (mFld "Seen" "own_wins" (mVar 0)) (mVar 3) (mCall (pure1 vAny) (mCons (mComp (iS (mVar 5)) (gN 7) (mYes) (mNot (mMethI "Seen" "wins" 3 self (mVar 0) (mCons (mVar 7) (mCons (mVar 4) (mNil))))) [7]) (mNil)))
def s_Seen_wins_4 (self : Fn) : MS := mIfS (mB (mBin vNNotIn (mVar 3) (mFld "Seen" "own_wins" (mVar 0)))) (mSeq (s_Seen_wins_1 self) (mSeq (s_Seen_wins_2 self) (s_Seen_wins_3 self))) (mSkip)
def s_Seen_wins_5 (self : Fn) : MS := mRet (mBin vNGet (mFld "Seen" "own_wins" (mVar 0)) (mVar 3))
def b_Seen_wins (self : Fn) : MS := mSeq (s_Seen_wins_0 self) (mSeq (s_Seen_wins_4 self) (s_Seen_wins_5 self))
def F_Seen_wins : Nat → Fn
  | 0 => fun _ _ => none
  | n + 1 => fnD 8 (b_Seen_wins (F_Seen_wins n))
theorem cal_Seen_wins {f : Addr} {fd : FuncData} (F : FunD K "wins" "Seen.wins" (defArgs st_Seen_wins) (defBody st_Seen_wins) (defScope st_Seen_wins) [] [] f fd) (kc : Cls K (He.ga K "Seen")) (hm : Meth K (He.ga K "Seen") "wins" f) {n : Nat} (G : FnG P w K mg base CX0 (n + 2) f fd ["self", "squares", "who"] (spD ⟨K, w⟩ 3 (F_Seen_wins n))) : CalM P w K mg base (n + 2) "Seen" "wins" 3 (F_Seen_wins n) := CalM.of F kc hm G rfl (fun _ _ _ _ _ _ us hl => match us, hl with | [_, _, _], _ => rfl)
theorem ok_Seen_wins {f : Addr} {fd : FuncData} (F : FunD K "wins" "Seen.wins" (defArgs st_Seen_wins) (defBody st_Seen_wins) (defScope st_Seen_wins) [] [] f fd) (kc : Cls K (He.ga K "Seen")) (hm : Meth K (He.ga K "Seen") "wins" f) (T : Tx K mg) (C_lays_of : Cal P w K mg base 1 "lays_of" 2 F_lays_of) (C_without : Cal P w K mg base 1 "without" 2 F_without) : ∀ n, FnG P w K mg base CX0 (n + 2) f fd ["self", "squares", "who"] (spD ⟨K, w⟩ 3 (F_Seen_wins n))
  | 0 => fn_never
  | n + 1 => by
    have C_Seen_wins := cal_Seen_wins F kc hm (ok_Seen_wins F kc hm T C_lays_of C_without n)
    rw [show n + 1 + 2 = (n + 2) + 1 from by omega]
    refine fn_mkQ F (k := n + 2) sc_Seen_wins rfl rfl (b := b_Seen_wins (F_Seen_wins n)) fun cdv A outer s H E hG hr => ?_
    have nd := sc_Seen_wins.nd
    exact ds_cons (d_set 3 nd (.inl rfl) (d_tup (da_cons (d_var 1) (da_cons (d_var 2) (da_nil))))) (ds_cons (d_ifS (d_cmpT (o_nnotIn (u65 hr)) (d_var 3) (d_fld T.k_Seen T.n_Seen_own_wins (d_var 0)) (by rfl)) (ds_cons (d_set 4 nd (.inr rfl) (d_if (d_cmpT (o_eq hr.units) (d_var 2) ((T.c_LEFT.name rfl)) (nomark _)) ((T.c_RIGHT.name rfl)) ((T.c_LEFT.name rfl)))) (ds_cons (d_setComp 5 [("pair", 6)] rfl nd rfl rfl (sw_true rfl rfl rfl (by decide +kernel)) (di_tup (C_lays_of.call hG (hr.mono (by omega)) rfl (da_cons (d_var 1) (da_cons (d_var 2) (da_nil))))) (blkOk_by (by kernel_rfl)) (fun _ _ _ _ _ => dgc_name 6 nd (.inl rfl) rfl (by decide) (.inr rfl)) (fun _ _ _ _ _ => dts_nil) (fun _ _ _ _ _ => C_without.call hG (hr.mono (by omega)) rfl (da_cons (d_var 1) (da_cons (d_var 6) (da_nil))))) (ds_one (d_setI (d_callB (c_any rfl) rfl T.f_any b_any (da_cons (d_comp [("one", 7)] rfl nd (di_seq (d_var 5)) (blkOk_by (by kernel_rfl)) (fun _ _ _ _ _ => dgc_name 7 nd (.inl rfl) rfl (by decide) (.inr rfl)) (fun _ _ _ _ _ => dts_nil) (fun _ _ _ _ _ => d_not (C_Seen_wins.call hG (hr.mono (by omega)) (d_var 0) (da_cons (d_var 7) (da_cons (d_var 4) (da_nil)))))) (da_nil))) (d_fld T.k_Seen T.n_Seen_own_wins (d_var 0)) (d_var 3) (s_nset (u65 hr)))))) (ds_nil)) (ds_one (d_ret (d_nget (u65 hr) (d_fld T.k_Seen T.n_Seen_own_wins (d_var 0)) (d_var 3) (fun _ _ => rfl)))))
/-! ### _law_board -/
abbrev st_law_board : Stmt := top 33
abbrev N_law_board : List Str := ["pot", "most", "high", "wide", "every", "row", "some", "square", "column"]
theorem sc_law_board : FnScope N_law_board ["pot", "most"] (defScope st_law_board) := ⟨rfl, rfl, rfl, by decide +kernel, rfl, by decide +kernel, by decide +kernel⟩
def s_law_board_0 : MS := mPar2 2 3 (mCons (mBin vAdd (mInt 1) (mCallF 2 F_law_take (mCons (mVar 0) (mCons (mInt 4) (mNil))))) (mCons (mBin vAdd (mInt 1) (mCallF 2 F_law_take (mCons (mVar 0) (mCons (mInt 4) (mNil))))) (mNil)))
def l_law_board_1 : MS := mExpr (mMeth isLoc gExtend (mVar 4) (mCons (mComp (iR1 (mCons (mVar 3) (mNil))) (gN 8) (mYes) (mTup (mCons (mCall (pure1 vInt) (mCons (mVar 5) (mNil))) (mCons (mCall (pure1 vInt) (mCons (mVar 8) (mNil))) (mNil)))) [8]) (mNil)))
def s_law_board_2 : MS := mFor (iR1 (mCons (mVar 2) (mNil))) (gN 5) (l_law_board_1)
def s_law_board_3 : MS := mAsg 6 (mBin vAdd (mComp (iS (mVar 4)) (gN 7) (mB (mBin vGt (mCallF 2 F_law_take (mCons (mVar 0) (mCons (mInt 5) (mNil)))) (mInt 0))) (mVar 7) [7]) (mCut (mVar 4) (mNoP) (mP (mInt 1))))
def s_law_board_4 : MS := mRet (mCut (mCall (pure1 vTuple) (mCons (mCall (pure1 vSortedSet) (mCons (mVar 6) mNil)) (mNil))) (mNoP) (mP (mVar 1)))
def b_law_board : MS := mSeq (s_law_board_0) (mSeq (mAsg 4 (mNew (mNil))) (mSeq (s_law_board_2) (mSeq (mFrzV 4) (mSeq (s_law_board_3) (s_law_board_4)))))
def F_law_board : Fn := fnD 9 b_law_board
theorem ok_law_board {f : Addr} {fd : FuncData} (F : FunD K "_law_board" "_law_board" (defArgs st_law_board) (defBody st_law_board) (defScope st_law_board) [] [] f fd) (T : Tx K mg) (C_law_take : Cal P w K mg base 1 "_law_take" 2 F_law_take) : FnG P w K mg base CX0 2 f fd ["pot", "most"] (spD ⟨K, w⟩ 2 F_law_board) := by
  refine fn_mk F (k := 1) sc_law_board rfl rfl (b := b_law_board) fun cdv A outer s H E hG hr => ?_
  have nd := sc_law_board.nd
  exact ds_cons (d_par2 2 3 rfl nd rfl rfl (da_cons (d_bin o_add (d_int) (C_law_take.call hG (hr.mono (by decide)) rfl (da_cons (d_var 0) (da_cons (d_int) (da_nil))))) (da_cons (d_bin o_add (d_int) (C_law_take.call hG (hr.mono (by decide)) rfl (da_cons (d_var 0) (da_cons (d_int) (da_nil))))) (da_nil))) rfl) (ds_cons (d_set 4 nd (.inl rfl) (d_new (da_nil))) (ds_cons (d_for PassesOwn.never rfl (di_range1 rfl T.f_range (da_cons (d_var 2) (da_nil))) (dg_name 5 nd (.inr rfl)) (ds_one (d_expr (d_meth PySem.F.plainAttrs_list PySem.F.slot_list_extend PySem.F.type_list_extend t_extend ty_list (d_var 4) (da_cons (d_comp [("column", 8)] rfl nd (di_range1 rfl T.f_range (da_cons (d_var 3) (da_nil))) (blkOk_by (by kernel_rfl)) (fun _ _ _ _ _ => dgc_name 8 nd (.inl rfl) rfl (by decide) (.inr rfl)) (fun _ _ _ _ _ => dts_nil) (fun _ _ _ _ _ => d_tup (da_cons (d_callTy (c_int) rfl T.f_int b_int (da_cons (d_var 5) (da_nil))) (da_cons (d_callTy (c_int) rfl T.f_int b_int (da_cons (d_var 8) (da_nil))) (da_nil))))) (da_nil)))))) (ds_frz (ds_cons (d_set 6 nd (.inl rfl) (d_bin o_add (d_comp [("square", 7)] rfl nd (di_seq (d_var 4)) (blkOk_by (by kernel_rfl)) (fun _ _ _ _ _ => dgc_name 7 nd (.inl rfl) rfl (by decide) (.inr rfl)) (fun _ _ _ _ _ => dts_one (d_cmpT o_gt (C_law_take.call hG (hr.mono (by decide)) rfl (da_cons (d_var 0) (da_cons (d_int) (da_nil)))) (d_int) (nomark _))) (fun _ _ _ _ _ => d_var 7)) (d_cut (d_var 4) (dp_none) (dp_some (d_int))))) (ds_one (d_ret (d_cut (d_callTy (c_tuple) rfl T.f_tuple b_tuple (da_cons (d_sortedSet rfl hr.units rfl T.f_sorted rfl T.f_set (d_var 6)) (da_nil))) (dp_none) (dp_some (d_var 1)))))))))
theorem cal_law_board {f : Addr} {fd : FuncData} (F : FunD K "_law_board" "_law_board" (defArgs st_law_board) (defBody st_law_board) (defScope st_law_board) [] [] f fd) (hm : mg "_law_board" = some (.ref f)) (G : FnG P w K mg base CX0 2 f fd ["pot", "most"] (spD ⟨K, w⟩ 2 F_law_board)) : Cal P w K mg base 2 "_law_board" 2 F_law_board := Cal.of F hm G rfl (fun _ _ _ _ _ _ us hl => match us, hl with | [_, _], _ => rfl)
/-! ### _law_wins -/
abbrev st_law_wins : Stmt := top 37
abbrev N_law_wins : List Str := ["squares", "who", "known", "key", "there", "pair", "one"]
theorem sc_law_wins : FnScope N_law_wins ["squares", "who", "known"] (defScope st_law_wins) := ⟨rfl, rfl, rfl, by decide +kernel, rfl, by decide +kernel, by decide +kernel⟩
def s_law_wins_0 (self : Fn) : MS := mAsg 3 (mTup (mCons (mVar 0) (mCons (mVar 1) (mNil))))
def s_law_wins_1 (self : Fn) : MS := mAsg 4 (mComp (iL (mCallF 2 F_law_lays (mCons (mVar 0) (mCons (mVar 1) (mNil))))) (gN 5) (mYes) (mCallF 2 F_law_left (mCons (mVar 0) (mCons (mVar 5) (mNil)))) [5])
def s_law_wins_2 (self : Fn) : MS := mSetI vNSet (mVar 2) (mVar 3) (mCall (pure1 vAny) (mCons (mComp (iS (mVar 4)) (gN 6) (mYes) (mNot (mCallF 3 self (mCons (mVar 6) (mCons (mCallF 1 F_law_other (mCons (mVar 1) (mNil))) (mCons (mVar 2) (mNil)))))) [6]) (mNil)))
def s_law_wins_3 (self : Fn) : MS := mIfS (mB (mBin vNNotIn (mVar 3) (mVar 2))) (mSeq (s_law_wins_1 self) (s_law_wins_2 self)) (mSkip)
def b_law_wins (self : Fn) : MS := mSeq (s_law_wins_0 self) (mSeq (s_law_wins_3 self) (mRet (mBin vNGet (mVar 2) (mVar 3))))
def F_law_wins : Nat → Fn
  | 0 => fun _ _ => none
  | n + 1 => fnD 7 (b_law_wins (F_law_wins n))
theorem cal_law_wins {f : Addr} {fd : FuncData} (F : FunD K "_law_wins" "_law_wins" (defArgs st_law_wins) (defBody st_law_wins) (defScope st_law_wins) [] [] f fd) (hm : mg "_law_wins" = some (.ref f)) {n : Nat} (G : FnG P w K mg base CX0 (n + 2) f fd ["squares", "who", "known"] (spD ⟨K, w⟩ 3 (F_law_wins n))) : Cal P w K mg base (n + 2) "_law_wins" 3 (F_law_wins n) := Cal.of F hm G rfl (fun _ _ _ _ _ _ us hl => match us, hl with | [_, _, _], _ => rfl)
theorem ok_law_wins {f : Addr} {fd : FuncData} (F : FunD K "_law_wins" "_law_wins" (defArgs st_law_wins) (defBody st_law_wins) (defScope st_law_wins) [] [] f fd) (hm : mg "_law_wins" = some (.ref f)) (T : Tx K mg) (C_law_lays : Cal P w K mg base 1 "_law_lays" 2 F_law_lays) (C_law_left : Cal P w K mg base 1 "_law_left" 2 F_law_left) (C_law_other : Cal P w K mg base 1 "_law_other" 1 F_law_other) : ∀ n, FnG P w K mg base CX0 (n + 2) f fd ["squares", "who", "known"] (spD ⟨K, w⟩ 3 (F_law_wins n))
  | 0 => fn_never
  | n + 1 => by
    have C_law_wins := cal_law_wins F hm (ok_law_wins F hm T C_law_lays C_law_left C_law_other n)
    rw [show n + 1 + 2 = (n + 2) + 1 from by omega]
    refine fn_mk F (k := n + 2) sc_law_wins rfl rfl (b := b_law_wins (F_law_wins n)) fun cdv A outer s H E hG hr => ?_
    have nd := sc_law_wins.nd
    exact ds_cons (d_set 3 nd (.inl rfl) (d_tup (da_cons (d_var 0) (da_cons (d_var 1) (da_nil))))) (ds_cons (d_ifS (d_cmpT (o_nnotIn (u65 hr)) (d_var 3) (d_var 2) (by rfl)) (ds_cons (d_setComp 4 [("pair", 5)] rfl nd rfl rfl (sw_true rfl rfl rfl (by decide +kernel)) (di_list (C_law_lays.call hG (hr.mono (by omega)) rfl (da_cons (d_var 0) (da_cons (d_var 1) (da_nil))))) (blkOk_by (by kernel_rfl)) (fun _ _ _ _ _ => dgc_name 5 nd (.inl rfl) rfl (by decide) (.inr rfl)) (fun _ _ _ _ _ => dts_nil) (fun _ _ _ _ _ => C_law_left.call hG (hr.mono (by omega)) rfl (da_cons (d_var 0) (da_cons (d_var 5) (da_nil))))) (ds_one (d_setI (d_callB (c_any rfl) rfl T.f_any b_any (da_cons (d_comp [("one", 6)] rfl nd (di_seq (d_var 4)) (blkOk_by (by kernel_rfl)) (fun _ _ _ _ _ => dgc_name 6 nd (.inl rfl) rfl (by decide) (.inr rfl)) (fun _ _ _ _ _ => dts_nil) (fun _ _ _ _ _ => d_not (C_law_wins.call hG (hr.mono (by omega)) rfl (da_cons (d_var 6) (da_cons (C_law_other.call hG (hr.mono (by omega)) rfl (da_cons (d_var 1) (da_nil))) (da_cons (d_var 2) (da_nil))))))) (da_nil))) (d_var 2) (d_var 3) (s_nset (u65 hr))))) (ds_nil)) (ds_one (d_ret (d_nget (u65 hr) (d_var 2) (d_var 3) (fun _ _ => rfl)))))
/-! ### is_square -/
abbrev st_is_square : Stmt := top 17
abbrev N_is_square : List Str := ["value"]
theorem sc_is_square : FnScope N_is_square ["value"] (defScope st_is_square) := ⟨rfl, rfl, rfl, by decide +kernel, rfl, by decide +kernel, by decide +kernel⟩
def s_is_square_0 : MS := mIfS (mOrT (mNotT (mB (mCall (pure2 vIsi) (mCons (mVar 0) (mCons (mC (.v (.ty "tuple"))) (mNil)))))) (mB (mBin vNe (mCall (pure1 vLen) (mCons (mVar 0) (mNil))) (mInt 2)))) (mRet (mBool false)) (mSkip)
def s_is_square_1 : MS := mRet (mAnd (mCallF 3 F_is_between (mCons (mBin vIx (mVar 0) (mInt 0)) (mCons (mInt 0) (mCons (mC (.d (.int 5))) (mNil))))) (mCallF 3 F_is_between (mCons (mBin vIx (mVar 0) (mInt 1)) (mCons (mInt 0) (mCons (mC (.d (.int 5))) (mNil))))))
def b_is_square : MS := mSeq (s_is_square_0) (s_is_square_1)
def F_is_square : Fn := fnD 1 b_is_square
theorem ok_is_square {f : Addr} {fd : FuncData} (F : FunD K "is_square" "is_square" (defArgs st_is_square) (defBody st_is_square) (defScope st_is_square) [] [] f fd) (T : Tx K mg) (C_is_between : Cal P w K mg base 2 "is_between" 3 F_is_between) : FnG P w K mg base CX0 3 f fd ["value"] (spD ⟨K, w⟩ 1 F_is_square) := by
  refine fn_mk F (k := 2) sc_is_square rfl rfl (b := b_is_square) fun cdv A outer s H E hG hr => ?_
  have nd := sc_is_square.nd
  exact ds_cons (d_ifS (d_w (d_orT (d_notT (d_valT (d_callB (c_isi) rfl T.f_isinstance b_isinstance (da_cons (d_var 0) (da_cons (d_type rfl T.f_tuple b_tuple) (da_nil)))))) (d_or1 (d_cmpT (o_ne hr.units) (d_callB (c_len) rfl T.f_len b_len (da_cons (d_var 0) (da_nil))) (d_int) (nomark _))))) (ds_one (d_ret (d_bool))) (ds_nil)) (ds_one (d_ret (d_and (C_is_between.call hG (hr.mono (by decide)) rfl (da_cons (d_ix i_ix (d_var 0) (d_int) (fun _ _ => rfl)) (da_cons (d_int) (da_cons ((T.c_LAST.name rfl)) (da_nil))))) (d_one (C_is_between.call hG (hr.mono (by decide)) rfl (da_cons (d_ix i_ix (d_var 0) (d_int) (fun _ _ => rfl)) (da_cons (d_int) (da_cons ((T.c_LAST.name rfl)) (da_nil)))))))))
theorem cal_is_square {f : Addr} {fd : FuncData} (F : FunD K "is_square" "is_square" (defArgs st_is_square) (defBody st_is_square) (defScope st_is_square) [] [] f fd) (hm : mg "is_square" = some (.ref f)) (G : FnG P w K mg base CX0 3 f fd ["value"] (spD ⟨K, w⟩ 1 F_is_square)) : Cal P w K mg base 3 "is_square" 1 F_is_square := Cal.of F hm G rfl (fun _ _ _ _ _ _ us hl => match us, hl with | [_], _ => rfl)
/-! ### is_board -/
abbrev st_is_board : Stmt := top 18
abbrev N_is_board : List Str := ["value", "square"]
theorem sc_is_board : FnScope N_is_board ["value"] (defScope st_is_board) := ⟨rfl, rfl, rfl, by decide +kernel, rfl, by decide +kernel, by decide +kernel⟩
def s_is_board_0 : MS := mIfS (mOrT (mNotT (mB (mCall (pure2 vIsi) (mCons (mVar 0) (mCons (mC (.v (.ty "tuple"))) (mNil)))))) (mNotT (mB (mChain vLe vLe (mInt 1) (mCall (pure1 vLen) (mCons (mVar 0) (mNil))) (mC (.d (.int 12))))))) (mRet (mBool false)) (mSkip)
def s_is_board_1 : MS := mRet (mAnd (mCall (pure1 vAll) (mCons (mComp (iS (mVar 0)) (gN 1) (mYes) (mCallF 1 F_is_square (mCons (mVar 1) (mNil))) [1]) (mNil))) (mCallF 1 F_is_ascending (mCons (mVar 0) (mNil))))
def b_is_board : MS := mSeq (s_is_board_0) (s_is_board_1)
def F_is_board : Fn := fnD 2 b_is_board
theorem ok_is_board {f : Addr} {fd : FuncData} (F : FunD K "is_board" "is_board" (defArgs st_is_board) (defBody st_is_board) (defScope st_is_board) [] [] f fd) (T : Tx K mg) (C_is_square : Cal P w K mg base 3 "is_square" 1 F_is_square) (C_is_ascending : Cal P w K mg base 1 "is_ascending" 1 F_is_ascending) : FnG P w K mg base CX0 4 f fd ["value"] (spD ⟨K, w⟩ 1 F_is_board) := by
  refine fn_mk F (k := 3) sc_is_board rfl rfl (b := b_is_board) fun cdv A outer s H E hG hr => ?_
  have nd := sc_is_board.nd
  exact ds_cons (d_ifS (d_w (d_orT (d_notT (d_valT (d_callB (c_isi) rfl T.f_isinstance b_isinstance (da_cons (d_var 0) (da_cons (d_type rfl T.f_tuple b_tuple) (da_nil)))))) (d_or1 (d_notT (d_chainT o_le o_le (d_int) (d_callB (c_len) rfl T.f_len b_len (da_cons (d_var 0) (da_nil))) ((T.c_MOST_SQUARES.name rfl))))))) (ds_one (d_ret (d_bool))) (ds_nil)) (ds_one (d_ret (d_and (d_callB (c_all rfl) rfl T.f_all b_all (da_cons (d_comp [("square", 1)] rfl nd (di_seq (d_var 0)) (blkOk_by (by kernel_rfl)) (fun _ _ _ _ _ => dgc_name 1 nd (.inl rfl) rfl (by decide) (.inr rfl)) (fun _ _ _ _ _ => dts_nil) (fun _ _ _ _ _ => C_is_square.call hG (hr.mono (by decide)) rfl (da_cons (d_var 1) (da_nil)))) (da_nil))) (d_one (C_is_ascending.call hG (hr.mono (by decide)) rfl (da_cons (d_var 0) (da_nil)))))))
theorem cal_is_board {f : Addr} {fd : FuncData} (F : FunD K "is_board" "is_board" (defArgs st_is_board) (defBody st_is_board) (defScope st_is_board) [] [] f fd) (hm : mg "is_board" = some (.ref f)) (G : FnG P w K mg base CX0 4 f fd ["value"] (spD ⟨K, w⟩ 1 F_is_board)) : Cal P w K mg base 4 "is_board" 1 F_is_board := Cal.of F hm G rfl (fun _ _ _ _ _ _ us hl => match us, hl with | [_], _ => rfl)
theorem kw_1 {f : Addr} {fd : FuncData} (F : FunD K "is_board" "is_board" (defArgs st_is_board) (defBody st_is_board) (defScope st_is_board) [] [] f fd) (hm : mg "is_board" = some (.ref f)) (G : FnG P w K mg base CX0 4 f fd ["value"] (spD ⟨K, w⟩ 1 F_is_board)) : CalK P w K mg base 4 "is_board" 1 F_is_board ["value"] [0] :=
  CalK.of F hm G rfl fun _ _ _ _ _ _ ws hl => match ws, hl with | [], hl => absurd hl (by simp [permL]) | _ :: _, _ => rfl
/-! ### check_board -/
abbrev st_check_board : Stmt := top 19
abbrev N_check_board : List Str := ["board"]
theorem sc_check_board : FnScope N_check_board ["board"] (defScope st_check_board) := ⟨rfl, rfl, rfl, by decide +kernel, rfl, by decide +kernel, by decide +kernel⟩
def b_check_board : MS := mIfS (mNotT (mB (mCallF 1 F_is_board (mCons (mVar 0) (mNil))))) ((fun _ _ => none)) (mSkip)
def F_check_board : Fn := fnD 1 b_check_board
theorem ok_check_board {f : Addr} {fd : FuncData} (F : FunD K "check_board" "check_board" (defArgs st_check_board) (defBody st_check_board) (defScope st_check_board) [] [] f fd) (C_is_board : Cal P w K mg base 4 "is_board" 1 F_is_board) : FnG P w K mg base CX0 5 f fd ["board"] (spD ⟨K, w⟩ 1 F_check_board) := by
  refine fn_mk F (k := 4) sc_check_board rfl rfl (b := b_check_board) fun cdv A outer s H E hG hr => ?_
  have nd := sc_check_board.nd
  exact ds_one (d_ifS (d_notT (d_valT (C_is_board.call hG (hr.mono (by decide)) rfl (da_cons (d_var 0) (da_nil))))) (ds_one (d_never)) (ds_nil))
theorem cal_check_board {f : Addr} {fd : FuncData} (F : FunD K "check_board" "check_board" (defArgs st_check_board) (defBody st_check_board) (defScope st_check_board) [] [] f fd) (hm : mg "check_board" = some (.ref f)) (G : FnG P w K mg base CX0 5 f fd ["board"] (spD ⟨K, w⟩ 1 F_check_board)) : Cal P w K mg base 5 "check_board" 1 F_check_board := Cal.of F hm G rfl (fun _ _ _ _ _ _ us hl => match us, hl with | [_], _ => rfl)
/-! ### lays -/
abbrev st_lays : Stmt := top 21
abbrev N_lays : List Str := ["board", "who"]
theorem sc_lays : FnScope N_lays ["board", "who"] (defScope st_lays) := ⟨rfl, rfl, rfl, by decide +kernel, rfl, by decide +kernel, by decide +kernel⟩
def s_lays_0 : MS := mExpr (mCallF 1 F_check_board (mCons (mVar 0) (mNil)))
def s_lays_1 : MS := mExpr (mCallF 1 F_check_side (mCons (mVar 1) (mNil)))
def s_lays_2 : MS := mRet (mCallF 2 F_lays_of (mCons (mVar 0) (mCons (mVar 1) (mNil))))
def b_lays : MS := mSeq (s_lays_0) (mSeq (s_lays_1) (s_lays_2))
def F_lays : Fn := fnD 2 b_lays
theorem ok_lays {f : Addr} {fd : FuncData} (F : FunD K "lays" "lays" (defArgs st_lays) (defBody st_lays) (defScope st_lays) [] [] f fd) (C_check_board : Cal P w K mg base 5 "check_board" 1 F_check_board) (C_check_side : Cal P w K mg base 1 "check_side" 1 F_check_side) (C_lays_of : Cal P w K mg base 1 "lays_of" 2 F_lays_of) : FnG P w K mg base CX0 6 f fd ["board", "who"] (spD ⟨K, w⟩ 2 F_lays) := by
  refine fn_mk F (k := 5) sc_lays rfl rfl (b := b_lays) fun cdv A outer s H E hG hr => ?_
  have nd := sc_lays.nd
  exact ds_cons (d_expr (C_check_board.call hG (hr.mono (by decide)) rfl (da_cons (d_var 0) (da_nil)))) (ds_cons (d_expr (C_check_side.call hG (hr.mono (by decide)) rfl (da_cons (d_var 1) (da_nil)))) (ds_one (d_ret (C_lays_of.call hG (hr.mono (by decide)) rfl (da_cons (d_var 0) (da_cons (d_var 1) (da_nil)))))))
theorem cal_lays {f : Addr} {fd : FuncData} (F : FunD K "lays" "lays" (defArgs st_lays) (defBody st_lays) (defScope st_lays) [] [] f fd) (hm : mg "lays" = some (.ref f)) (G : FnG P w K mg base CX0 6 f fd ["board", "who"] (spD ⟨K, w⟩ 2 F_lays)) : Cal P w K mg base 6 "lays" 2 F_lays := Cal.of F hm G rfl (fun _ _ _ _ _ _ us hl => match us, hl with | [_, _], _ => rfl)
theorem kw_2 {f : Addr} {fd : FuncData} (F : FunD K "lays" "lays" (defArgs st_lays) (defBody st_lays) (defScope st_lays) [] [] f fd) (hm : mg "lays" = some (.ref f)) (G : FnG P w K mg base CX0 6 f fd ["board", "who"] (spD ⟨K, w⟩ 2 F_lays)) : CalK P w K mg base 6 "lays" 2 F_lays ["board", "who"] [0, 1] :=
  CalK.of F hm G rfl fun _ _ _ _ _ _ ws hl => match ws, hl with | [], hl => absurd hl (by simp [permL]) | [_], hl => absurd hl (by simp [permL]) | _ :: _ :: _, _ => rfl
/-! ### parts -/
abbrev st_parts : Stmt := top 25
abbrev N_parts : List Str := ["board"]
theorem sc_parts : FnScope N_parts ["board"] (defScope st_parts) := ⟨rfl, rfl, rfl, by decide +kernel, rfl, by decide +kernel, by decide +kernel⟩
def s_parts_0 : MS := mExpr (mCallF 1 F_check_board (mCons (mVar 0) (mNil)))
def s_parts_1 : MS := mRet (mCallF 1 F_parts_of (mCons (mVar 0) (mNil)))
def b_parts : MS := mSeq (s_parts_0) (s_parts_1)
def F_parts : Fn := fnD 1 b_parts
theorem ok_parts {f : Addr} {fd : FuncData} (F : FunD K "parts" "parts" (defArgs st_parts) (defBody st_parts) (defScope st_parts) [] [] f fd) (C_check_board : Cal P w K mg base 5 "check_board" 1 F_check_board) (C_parts_of : Cal P w K mg base 2 "parts_of" 1 F_parts_of) : FnG P w K mg base CX0 6 f fd ["board"] (spD ⟨K, w⟩ 1 F_parts) := by
  refine fn_mk F (k := 5) sc_parts rfl rfl (b := b_parts) fun cdv A outer s H E hG hr => ?_
  have nd := sc_parts.nd
  exact ds_cons (d_expr (C_check_board.call hG (hr.mono (by decide)) rfl (da_cons (d_var 0) (da_nil)))) (ds_one (d_ret (C_parts_of.call hG (hr.mono (by decide)) rfl (da_cons (d_var 0) (da_nil)))))
theorem cal_parts {f : Addr} {fd : FuncData} (F : FunD K "parts" "parts" (defArgs st_parts) (defBody st_parts) (defScope st_parts) [] [] f fd) (hm : mg "parts" = some (.ref f)) (G : FnG P w K mg base CX0 6 f fd ["board"] (spD ⟨K, w⟩ 1 F_parts)) : Cal P w K mg base 6 "parts" 1 F_parts := Cal.of F hm G rfl (fun _ _ _ _ _ _ us hl => match us, hl with | [_], _ => rfl)
theorem kw_4 {f : Addr} {fd : FuncData} (F : FunD K "parts" "parts" (defArgs st_parts) (defBody st_parts) (defScope st_parts) [] [] f fd) (hm : mg "parts" = some (.ref f)) (G : FnG P w K mg base CX0 6 f fd ["board"] (spD ⟨K, w⟩ 1 F_parts)) : CalK P w K mg base 6 "parts" 1 F_parts ["board"] [0] :=
  CalK.of F hm G rfl fun _ _ _ _ _ _ ws hl => match ws, hl with | [], hl => absurd hl (by simp [permL]) | _ :: _, _ => rfl
/-! ### board_winner -/
abbrev st_board_winner : Stmt := top 27
abbrev N_board_winner : List Str := ["board", "known", "here", "there"]
theorem sc_board_winner : FnScope N_board_winner ["board"] (defScope st_board_winner) := ⟨rfl, rfl, rfl, by decide +kernel, rfl, by decide +kernel, by decide +kernel⟩
def s_board_winner_0 : MS := mExpr (mCallF 1 F_check_board (mCons (mVar 0) (mNil)))
def s_board_winner_1 : MS := mAsg 1 (mMake "Seen" 1 F_Seen_init mNil)
def s_board_winner_2 : MS := mPar2 2 3 (mCons (mMethI "Seen" "wins" 3 (F_Seen_wins 16) (mVar 1) (mCons (mVar 0) (mCons (mC (.d (.str "left"))) (mNil)))) (mCons (mMethI "Seen" "wins" 3 (F_Seen_wins 16) (mVar 1) (mCons (mVar 0) (mCons (mC (.d (.str "right"))) (mNil)))) (mNil)))
def s_board_winner_3 : MS := mIfS (mB (mBin vEq (mVar 2) (mVar 3))) (mRet (mIf (mB (mVar 2)) (mC (.d (.str "first"))) (mC (.d (.str "second"))))) (mSkip)
def s_board_winner_4 : MS := mRet (mIf (mB (mVar 2)) (mC (.d (.str "left"))) (mC (.d (.str "right"))))
def b_board_winner : MS := mSeq (s_board_winner_0) (mSeq (s_board_winner_1) (mSeq (s_board_winner_2) (mSeq (s_board_winner_3) (s_board_winner_4))))
def F_board_winner : Fn := fnD 4 b_board_winner
theorem ok_board_winner {f : Addr} {fd : FuncData} (F : FunD K "board_winner" "board_winner" (defArgs st_board_winner) (defBody st_board_winner) (defScope st_board_winner) [] [] f fd) (T : Tx K mg) (MK_Seen : CalMk P w K mg base 1 "Seen" 1 F_Seen_init) (C_check_board : Cal P w K mg base 5 "check_board" 1 F_check_board) (C_Seen_wins : CalM P w K mg base 18 "Seen" "wins" 3 (F_Seen_wins 16)) : FnG P w K mg base CX0 19 f fd ["board"] (spD ⟨K, w⟩ 1 F_board_winner) := by
  refine fn_mk F (k := 18) sc_board_winner rfl rfl (b := b_board_winner) fun cdv A outer s H E hG hr => ?_
  have nd := sc_board_winner.nd
  exact ds_cons (d_expr (C_check_board.call hG (hr.mono (by decide)) rfl (da_cons (d_var 0) (da_nil)))) (ds_cons (d_set 1 nd (.inl rfl) (MK_Seen.make0 hG (hr.mono (by decide)) rfl)) (ds_cons (d_par2 2 3 rfl nd rfl rfl (da_cons (C_Seen_wins.call hG (hr.mono (by decide)) (d_var 1) (da_cons (d_var 0) (da_cons ((T.c_LEFT.name rfl)) (da_nil)))) (da_cons (C_Seen_wins.call hG (hr.mono (by decide)) (d_var 1) (da_cons (d_var 0) (da_cons ((T.c_RIGHT.name rfl)) (da_nil)))) (da_nil))) rfl) (ds_cons (d_ifS (d_cmpT (o_eq hr.units) (d_var 2) (d_var 3) (nomark _)) (ds_one (d_ret (d_if (d_valT (d_var 2)) ((T.c_FIRST.name rfl)) ((T.c_SECOND.name rfl))))) (ds_nil)) (ds_one (d_ret (d_if (d_valT (d_var 2)) ((T.c_LEFT.name rfl)) ((T.c_RIGHT.name rfl))))))))
theorem cal_board_winner {f : Addr} {fd : FuncData} (F : FunD K "board_winner" "board_winner" (defArgs st_board_winner) (defBody st_board_winner) (defScope st_board_winner) [] [] f fd) (hm : mg "board_winner" = some (.ref f)) (G : FnG P w K mg base CX0 19 f fd ["board"] (spD ⟨K, w⟩ 1 F_board_winner)) : Cal P w K mg base 19 "board_winner" 1 F_board_winner := Cal.of F hm G rfl (fun _ _ _ _ _ _ us hl => match us, hl with | [_], _ => rfl)
theorem kw_0 {f : Addr} {fd : FuncData} (F : FunD K "board_winner" "board_winner" (defArgs st_board_winner) (defBody st_board_winner) (defScope st_board_winner) [] [] f fd) (hm : mg "board_winner" = some (.ref f)) (G : FnG P w K mg base CX0 19 f fd ["board"] (spD ⟨K, w⟩ 1 F_board_winner)) : CalK P w K mg base 19 "board_winner" 1 F_board_winner ["board"] [0] :=
  CalK.of F hm G rfl fun _ _ _ _ _ _ ws hl => match ws, hl with | [], hl => absurd hl (by simp [permL]) | _ :: _, _ => rfl
/-! ### good_lays -/
abbrev st_good_lays : Stmt := top 28
abbrev N_good_lays : List Str := ["board", "who", "known", "other", "pair"]
theorem sc_good_lays : FnScope N_good_lays ["board", "who"] (defScope st_good_lays) := ⟨rfl, rfl, rfl, by decide +kernel, rfl, by decide +kernel, by decide +kernel⟩
def s_good_lays_0 : MS := mExpr (mCallF 1 F_check_board (mCons (mVar 0) (mNil)))
def s_good_lays_1 : MS := mExpr (mCallF 1 F_check_side (mCons (mVar 1) (mNil)))
def s_good_lays_2 : MS := mPar2 2 3 (mCons (mMake "Seen" 1 F_Seen_init mNil) (mCons (mIf (mB (mBin vEq (mVar 1) (mC (.d (.str "left"))))) (mC (.d (.str "right"))) (mC (.d (.str "left")))) (mNil)))
def s_good_lays_3 : MS := mRet (mCall (pure1 vTuple) (mCons (mComp (iT (mCallF 2 F_lays_of (mCons (mVar 0) (mCons (mVar 1) (mNil))))) (gN 4) (mNotT (mB (mMethI "Seen" "wins" 3 (F_Seen_wins 16) (mVar 2) (mCons (mCallF 2 F_without (mCons (mVar 0) (mCons (mVar 4) (mNil)))) (mCons (mVar 3) (mNil)))))) (mVar 4) [4]) (mNil)))
def b_good_lays : MS := mSeq (s_good_lays_0) (mSeq (s_good_lays_1) (mSeq (s_good_lays_2) (s_good_lays_3)))
def F_good_lays : Fn := fnD 5 b_good_lays
theorem ok_good_lays {f : Addr} {fd : FuncData} (F : FunD K "good_lays" "good_lays" (defArgs st_good_lays) (defBody st_good_lays) (defScope st_good_lays) [] [] f fd) (T : Tx K mg) (MK_Seen : CalMk P w K mg base 1 "Seen" 1 F_Seen_init) (C_check_board : Cal P w K mg base 5 "check_board" 1 F_check_board) (C_check_side : Cal P w K mg base 1 "check_side" 1 F_check_side) (C_lays_of : Cal P w K mg base 1 "lays_of" 2 F_lays_of) (C_Seen_wins : CalM P w K mg base 18 "Seen" "wins" 3 (F_Seen_wins 16)) (C_without : Cal P w K mg base 1 "without" 2 F_without) : FnG P w K mg base CX0 19 f fd ["board", "who"] (spD ⟨K, w⟩ 2 F_good_lays) := by
  refine fn_mk F (k := 18) sc_good_lays rfl rfl (b := b_good_lays) fun cdv A outer s H E hG hr => ?_
  have nd := sc_good_lays.nd
  exact ds_cons (d_expr (C_check_board.call hG (hr.mono (by decide)) rfl (da_cons (d_var 0) (da_nil)))) (ds_cons (d_expr (C_check_side.call hG (hr.mono (by decide)) rfl (da_cons (d_var 1) (da_nil)))) (ds_cons (d_par2c 2 3 rfl nd (.inr rfl) (.inr rfl) (da_cons (MK_Seen.make0 hG (hr.mono (by decide)) rfl) (da_cons (d_if (d_cmpT (o_eq hr.units) (d_var 1) ((T.c_LEFT.name rfl)) (nomark _)) ((T.c_RIGHT.name rfl)) ((T.c_LEFT.name rfl))) (da_nil)))) (ds_one (d_ret (d_callTy (c_tuple) rfl T.f_tuple b_tuple (da_cons (d_comp [("pair", 4)] rfl nd (di_tup (C_lays_of.call hG (hr.mono (by decide)) rfl (da_cons (d_var 0) (da_cons (d_var 1) (da_nil))))) (blkOk_by (by kernel_rfl)) (fun _ _ _ _ _ => dgc_name 4 nd (.inl rfl) rfl (by decide) (.inr rfl)) (fun _ _ _ _ _ => dts_one (d_notT (d_valT (C_Seen_wins.call hG (hr.mono (by decide)) (d_var 2) (da_cons (C_without.call hG (hr.mono (by decide)) rfl (da_cons (d_var 0) (da_cons (d_var 4) (da_nil)))) (da_cons (d_var 3) (da_nil))))))) (fun _ _ _ _ _ => d_var 4)) (da_nil)))))))
theorem cal_good_lays {f : Addr} {fd : FuncData} (F : FunD K "good_lays" "good_lays" (defArgs st_good_lays) (defBody st_good_lays) (defScope st_good_lays) [] [] f fd) (hm : mg "good_lays" = some (.ref f)) (G : FnG P w K mg base CX0 19 f fd ["board", "who"] (spD ⟨K, w⟩ 2 F_good_lays)) : Cal P w K mg base 19 "good_lays" 2 F_good_lays := Cal.of F hm G rfl (fun _ _ _ _ _ _ us hl => match us, hl with | [_, _], _ => rfl)
theorem kw_3 {f : Addr} {fd : FuncData} (F : FunD K "good_lays" "good_lays" (defArgs st_good_lays) (defBody st_good_lays) (defScope st_good_lays) [] [] f fd) (hm : mg "good_lays" = some (.ref f)) (G : FnG P w K mg base CX0 19 f fd ["board", "who"] (spD ⟨K, w⟩ 2 F_good_lays)) : CalK P w K mg base 19 "good_lays" 2 F_good_lays ["board", "who"] [0, 1] :=
  CalK.of F hm G rfl fun _ _ _ _ _ _ ws hl => match ws, hl with | [], hl => absurd hl (by simp [permL]) | [_], hl => absurd hl (by simp [permL]) | _ :: _ :: _, _ => rfl
/-! ### _law_word -/
abbrev st_law_word : Stmt := top 38
abbrev N_law_word : List Str := ["squares", "known", "here", "there"]
theorem sc_law_word : FnScope N_law_word ["squares", "known"] (defScope st_law_word) := ⟨rfl, rfl, rfl, by decide +kernel, rfl, by decide +kernel, by decide +kernel⟩
def s_law_word_0 : MS := mPar2 2 3 (mCons (mCallF 3 (F_law_wins 16) (mCons (mVar 0) (mCons (mStr "left") (mCons (mVar 1) (mNil))))) (mCons (mCallF 3 (F_law_wins 16) (mCons (mVar 0) (mCons (mStr "right") (mCons (mVar 1) (mNil))))) (mNil)))
def s_law_word_1 : MS := mIfS (mB (mBin vEq (mVar 2) (mVar 3))) (mRet (mIf (mB (mVar 2)) (mStr "first") (mStr "second"))) (mSkip)
def s_law_word_2 : MS := mRet (mIf (mB (mVar 2)) (mStr "left") (mStr "right"))
def b_law_word : MS := mSeq (s_law_word_0) (mSeq (s_law_word_1) (s_law_word_2))
def F_law_word : Fn := fnD 4 b_law_word
theorem ok_law_word {f : Addr} {fd : FuncData} (F : FunD K "_law_word" "_law_word" (defArgs st_law_word) (defBody st_law_word) (defScope st_law_word) [] [] f fd) (C_law_wins : Cal P w K mg base 18 "_law_wins" 3 (F_law_wins 16)) : FnG P w K mg base CX0 19 f fd ["squares", "known"] (spD ⟨K, w⟩ 2 F_law_word) := by
  refine fn_mk F (k := 18) sc_law_word rfl rfl (b := b_law_word) fun cdv A outer s H E hG hr => ?_
  have nd := sc_law_word.nd
  exact ds_cons (d_par2 2 3 rfl nd rfl rfl (da_cons (C_law_wins.call hG (hr.mono (by decide)) rfl (da_cons (d_var 0) (da_cons (d_str) (da_cons (d_var 1) (da_nil))))) (da_cons (C_law_wins.call hG (hr.mono (by decide)) rfl (da_cons (d_var 0) (da_cons (d_str) (da_cons (d_var 1) (da_nil))))) (da_nil))) rfl) (ds_cons (d_ifS (d_cmpT (o_eq hr.units) (d_var 2) (d_var 3) (nomark _)) (ds_one (d_ret (d_if (d_valT (d_var 2)) (d_str) (d_str)))) (ds_nil)) (ds_one (d_ret (d_if (d_valT (d_var 2)) (d_str) (d_str)))))
theorem cal_law_word {f : Addr} {fd : FuncData} (F : FunD K "_law_word" "_law_word" (defArgs st_law_word) (defBody st_law_word) (defScope st_law_word) [] [] f fd) (hm : mg "_law_word" = some (.ref f)) (G : FnG P w K mg base CX0 19 f fd ["squares", "known"] (spD ⟨K, w⟩ 2 F_law_word)) : Cal P w K mg base 19 "_law_word" 2 F_law_word := Cal.of F hm G rfl (fun _ _ _ _ _ _ us hl => match us, hl with | [_, _], _ => rfl)
/-! ### _law_right -/
abbrev st_law_right : Stmt := top 40
abbrev N_law_right : List Str := ["pot", "board", "known", "word", "who", "every", "good", "turned", "mirrored", "moved", "pair", "row", "column"]
theorem sc_law_right : FnScope N_law_right ["pot"] (defScope st_law_right) := ⟨rfl, rfl, rfl, by decide +kernel, rfl, by decide +kernel, by decide +kernel⟩
def s_law_right_0 : MS := mPar2 1 2 (mCons (mCallF 2 F_law_board (mCons (mVar 0) (mCons (mInt 12) (mNil)))) (mCons (mNewN) (mNil)))
def s_law_right_1 : MS := mAsg 3 (mCallF 2 F_law_word (mCons (mVar 1) (mCons (mVar 2) (mNil))))
def s_law_right_2 : MS := mIfS (mOrT (mB (mBin vNe (mCall (pure1 vRepr) (mCons (mCallK [0] 1 F_board_winner (mCons (mVar 1) (mNil))) (mNil))) (mCall (pure1 vRepr) (mCons (mVar 3) (mNil))))) (mB (mBin vIsNB (mCallK [0] 1 F_is_board (mCons (mVar 1) (mNil))) (mBool true)))) (mRet (mBool false)) (mSkip)
def s_law_right_3 : MS := mAsg 5 (mCallF 2 F_law_lays (mCons (mVar 1) (mCons (mVar 4) (mNil))))
def s_law_right_4 : MS := mIfS (mB (mBin vNe (mCall (pure1 vRepr) (mCons (mCallK [0, 1] 2 F_lays (mCons (mVar 1) (mCons (mVar 4) (mNil)))) (mNil))) (mCall (pure1 vRepr) (mCons (mCall (pure1 vTuple) (mCons (mVar 5) (mNil))) (mNil))))) (mRet (mBool false)) (mSkip)
def s_law_right_5 : MS := mAsg 6 (mComp (iS (mVar 5)) (gN 10) (mNotT (mB (mCallF 3 (F_law_wins 16) (mCons (mCallF 2 F_law_left (mCons (mVar 1) (mCons (mVar 10) (mNil)))) (mCons (mCallF 1 F_law_other (mCons (mVar 4) (mNil))) (mCons (mVar 2) (mNil))))))) (mVar 10) [10])
def s_law_right_6 : MS := mIfS (mB (mBin vNe (mCall (pure1 vRepr) (mCons (mCallK [0, 1] 2 F_good_lays (mCons (mVar 1) (mCons (mVar 4) (mNil)))) (mNil))) (mCall (pure1 vRepr) (mCons (mCall (pure1 vTuple) (mCons (mVar 6) (mNil))) (mNil))))) (mRet (mBool false)) (mSkip)
def l_law_right_7 : MS := mSeq (s_law_right_3) (mSeq (s_law_right_4) (mSeq (s_law_right_5) (s_law_right_6)))
def s_law_right_8 : MS := mFor (iT (mTup (mCons (mStr "left") (mCons (mStr "right") (mNil))))) (gN 4) (l_law_right_7)
def s_law_right_9 : MS := mIfS (mB (mBin vNe (mCall (pure1 vRepr) (mCons (mCallK [0] 1 F_parts (mCons (mVar 1) (mNil))) (mNil))) (mCall (pure1 vRepr) (mCons (mCallF 1 F_law_parts (mCons (mVar 1) (mNil))) (mNil))))) (mRet (mBool false)) (mSkip)
def s_law_right_10 : MS := mAsg 7 (mCall (pure1 vTuple) (mCons (mCall (pure1 vSorted) (mCons (mComp (iS (mVar 1)) (gTup 2 (gCons (gN 11) (gCons (gN 12) (gNil)))) (mYes) (mTup (mCons (mVar 12) (mCons (mVar 11) (mNil)))) [11, 12]) (mNil))) (mNil)))
def s_law_right_11 : MS := mIfS (mB (mBin vNe (mCallF 1 F_board_winner (mCons (mVar 7) (mNil))) (mTmp (mGetD (mCall (gDict) (mCons (mLst (mCons (mTup (mCons (mStr "left") (mCons (mStr "right") (mNil)))) (mCons (mTup (mCons (mStr "right") (mCons (mStr "left") (mNil)))) (mNil)))) (mNil))) (mVar 3) (mVar 3))))) (mRet (mBool false)) (mSkip)
def s_law_right_12 : MS := mAsg 8 (mCall (pure1 vTuple) (mCons (mCall (pure1 vSorted) (mCons (mComp (iS (mVar 1)) (gTup 2 (gCons (gN 11) (gCons (gN 12) (gNil)))) (mYes) (mTup (mCons (mBin vSub (mInt 5) (mVar 11)) (mCons (mVar 12) (mNil)))) [11, 12]) (mNil))) (mNil)))
def s_law_right_13 : MS := mAsg 9 (mCall (pure1 vTuple) (mCons (mCall (pure1 vSorted) (mCons (mComp (iS (mVar 1)) (gTup 2 (gCons (gN 11) (gCons (gN 12) (gNil)))) (mYes) (mTup (mCons (mBin vAdd (mVar 11) (mInt 2)) (mCons (mBin vAdd (mVar 12) (mInt 1)) (mNil)))) [11, 12]) (mNil))) (mNil)))
def s_law_right_14 : MS := mRet (mAnd (mBin vEq (mCallF 1 F_board_winner (mCons (mVar 8) (mNil))) (mVar 3)) (mBin vEq (mCallF 1 F_board_winner (mCons (mVar 9) (mNil))) (mVar 3)))
def b_law_right : MS := mSeq (s_law_right_0) (mSeq (s_law_right_1) (mSeq (s_law_right_2) (mSeq (s_law_right_8) (mSeq (s_law_right_9) (mSeq (s_law_right_10) (mSeq (s_law_right_11) (mSeq (s_law_right_12) (mSeq (s_law_right_13) (s_law_right_14)))))))))
def F_law_right : Fn := fnD 13 b_law_right
theorem ok_law_right {f : Addr} {fd : FuncData} (F : FunD K "_law_right" "_law_right" (defArgs st_law_right) (defBody st_law_right) (defScope st_law_right) [] [] f fd) (T : Tx K mg) (C_law_board : Cal P w K mg base 2 "_law_board" 2 F_law_board) (C_law_word : Cal P w K mg base 19 "_law_word" 2 F_law_word) (C_board_winner : Cal P w K mg base 19 "board_winner" 1 F_board_winner) (C_law_lays : Cal P w K mg base 1 "_law_lays" 2 F_law_lays) (C_law_wins : Cal P w K mg base 18 "_law_wins" 3 (F_law_wins 16)) (C_law_other : Cal P w K mg base 1 "_law_other" 1 F_law_other) (C_law_left : Cal P w K mg base 1 "_law_left" 2 F_law_left) (C_law_parts : Cal P w K mg base 1 "_law_parts" 1 F_law_parts) (KC0 : CalK P w K mg base 19 "board_winner" 1 F_board_winner ["board"] [0]) (KC1 : CalK P w K mg base 4 "is_board" 1 F_is_board ["value"] [0]) (KC2 : CalK P w K mg base 6 "lays" 2 F_lays ["board", "who"] [0, 1]) (KC3 : CalK P w K mg base 19 "good_lays" 2 F_good_lays ["board", "who"] [0, 1]) (KC4 : CalK P w K mg base 6 "parts" 1 F_parts ["board"] [0]) : FnG P w K mg base CX0 20 f fd ["pot"] (spD ⟨K, w⟩ 1 F_law_right) := by
  refine fn_mk F (k := 19) sc_law_right rfl rfl (b := b_law_right) fun cdv A outer s H E hG hr => ?_
  have nd := sc_law_right.nd
  exact ds_cons (d_par2c 1 2 rfl nd (.inr rfl) (.inr rfl) (da_cons (C_law_board.call hG (hr.mono (by decide)) rfl (da_cons (d_var 0) (da_cons (d_int) (da_nil)))) (da_cons (d_newN) (da_nil)))) (ds_cons (d_set 3 nd (.inl rfl) (C_law_word.call hG (hr.mono (by decide)) rfl (da_cons (d_var 1) (da_cons (d_var 2) (da_nil))))) (ds_cons (d_ifS (d_w (d_orT (d_cmpT (o_ne hr.units) (d_callB (c_repr hG (u66 hr)) rfl T.f_repr b_repr (da_cons (KC0.callK hG (hr.mono (by decide)) rfl (dk_cons (d_var 1) (dk_nil))) (da_nil))) (d_callB (c_repr hG (u66 hr)) rfl T.f_repr b_repr (da_cons (d_var 3) (da_nil))) (nomark _)) (d_or1 (d_cmpT o_isNB (KC1.callK hG (hr.mono (by decide)) rfl (dk_cons (d_var 1) (dk_nil))) (d_bool) (nomark _))))) (ds_one (d_ret (d_bool))) (ds_nil)) (ds_cons (d_for PassesOwn.never rfl (di_tup (d_tup (da_cons (d_str) (da_cons (d_str) (da_nil))))) (dg_name 4 nd (.inr rfl)) (ds_cons (d_set 5 nd (.inl rfl) (C_law_lays.call hG (hr.mono (by decide)) rfl (da_cons (d_var 1) (da_cons (d_var 4) (da_nil))))) (ds_cons (d_ifS (d_cmpT (o_ne hr.units) (d_callB (c_repr hG (u66 hr)) rfl T.f_repr b_repr (da_cons (KC2.callK hG (hr.mono (by decide)) rfl (dk_cons (d_var 1) (dk_cons (d_var 4) (dk_nil)))) (da_nil))) (d_callB (c_repr hG (u66 hr)) rfl T.f_repr b_repr (da_cons (d_callTy (c_tuple) rfl T.f_tuple b_tuple (da_cons (d_var 5) (da_nil))) (da_nil))) (nomark _)) (ds_one (d_ret (d_bool))) (ds_nil)) (ds_cons (d_setComp 6 [("pair", 10)] rfl nd rfl rfl (sw_true rfl rfl rfl (by decide +kernel)) (di_seq (d_var 5)) (blkOk_by (by kernel_rfl)) (fun _ _ _ _ _ => dgc_name 10 nd (.inl rfl) rfl (by decide) (.inr rfl)) (fun _ _ _ _ _ => dts_one (d_notT (d_valT (C_law_wins.call hG (hr.mono (by decide)) rfl (da_cons (C_law_left.call hG (hr.mono (by decide)) rfl (da_cons (d_var 1) (da_cons (d_var 10) (da_nil)))) (da_cons (C_law_other.call hG (hr.mono (by decide)) rfl (da_cons (d_var 4) (da_nil))) (da_cons (d_var 2) (da_nil)))))))) (fun _ _ _ _ _ => d_var 10)) (ds_one (d_ifS (d_cmpT (o_ne hr.units) (d_callB (c_repr hG (u66 hr)) rfl T.f_repr b_repr (da_cons (KC3.callK hG (hr.mono (by decide)) rfl (dk_cons (d_var 1) (dk_cons (d_var 4) (dk_nil)))) (da_nil))) (d_callB (c_repr hG (u66 hr)) rfl T.f_repr b_repr (da_cons (d_callTy (c_tuple) rfl T.f_tuple b_tuple (da_cons (d_var 6) (da_nil))) (da_nil))) (nomark _)) (ds_one (d_ret (d_bool))) (ds_nil))))))) (ds_cons (d_ifS (d_cmpT (o_ne hr.units) (d_callB (c_repr hG (u66 hr)) rfl T.f_repr b_repr (da_cons (KC4.callK hG (hr.mono (by decide)) rfl (dk_cons (d_var 1) (dk_nil))) (da_nil))) (d_callB (c_repr hG (u66 hr)) rfl T.f_repr b_repr (da_cons (C_law_parts.call hG (hr.mono (by decide)) rfl (da_cons (d_var 1) (da_nil))) (da_nil))) (nomark _)) (ds_one (d_ret (d_bool))) (ds_nil)) (ds_cons (d_set 7 nd (.inl rfl) (d_callTy (c_tuple) rfl T.f_tuple b_tuple (da_cons (d_callB (c_sorted rfl (u70 hr)) rfl T.f_sorted b_sorted (da_cons (d_comp [("row", 11), ("column", 12)] rfl nd (di_seq (d_var 1)) (blkOk_by (by kernel_rfl)) (fun _ _ _ _ _ => dgc_tup rfl (dgcs_cons (dgc_name 11 nd (.inl rfl) rfl (by decide) (.inr rfl)) (dgcs_cons (dgc_name 12 nd (.inl rfl) rfl (by decide) (.inr rfl)) (dgcs_nil)))) (fun _ _ _ _ _ => dts_nil) (fun _ _ _ _ _ => d_tup (da_cons (d_var 12) (da_cons (d_var 11) (da_nil))))) (da_nil))) (da_nil)))) (ds_cons (d_ifS (d_cmpT (o_ne hr.units) (C_board_winner.call hG (hr.mono (by decide)) rfl (da_cons (d_var 7) (da_nil))) (d_tmp (d_get2' (hu_of hr) (d_callTy (c_dict rfl) rfl T.f_dict b_dict (da_cons (d_lst (da_cons (d_tup (da_cons (d_str) (da_cons (d_str) (da_nil)))) (da_cons (d_tup (da_cons (d_str) (da_cons (d_str) (da_nil)))) (da_nil)))) (da_nil))) (d_var 3) (d_var 3) ⟨rfl, rfl, rfl, rfl⟩)) (nomark _)) (ds_one (d_ret (d_bool))) (ds_nil)) (ds_cons (d_set 8 nd (.inl rfl) (d_callTy (c_tuple) rfl T.f_tuple b_tuple (da_cons (d_callB (c_sorted rfl (u70 hr)) rfl T.f_sorted b_sorted (da_cons (d_comp [("row", 11), ("column", 12)] rfl nd (di_seq (d_var 1)) (blkOk_by (by kernel_rfl)) (fun _ _ _ _ _ => dgc_tup rfl (dgcs_cons (dgc_name 11 nd (.inl rfl) rfl (by decide) (.inr rfl)) (dgcs_cons (dgc_name 12 nd (.inl rfl) rfl (by decide) (.inr rfl)) (dgcs_nil)))) (fun _ _ _ _ _ => dts_nil) (fun _ _ _ _ _ => d_tup (da_cons (d_bin o_sub (d_int) (d_var 11)) (da_cons (d_var 12) (da_nil))))) (da_nil))) (da_nil)))) (ds_cons (d_set 9 nd (.inl rfl) (d_callTy (c_tuple) rfl T.f_tuple b_tuple (da_cons (d_callB (c_sorted rfl (u70 hr)) rfl T.f_sorted b_sorted (da_cons (d_comp [("row", 11), ("column", 12)] rfl nd (di_seq (d_var 1)) (blkOk_by (by kernel_rfl)) (fun _ _ _ _ _ => dgc_tup rfl (dgcs_cons (dgc_name 11 nd (.inl rfl) rfl (by decide) (.inr rfl)) (dgcs_cons (dgc_name 12 nd (.inl rfl) rfl (by decide) (.inr rfl)) (dgcs_nil)))) (fun _ _ _ _ _ => dts_nil) (fun _ _ _ _ _ => d_tup (da_cons (d_bin o_add (d_var 11) (d_int)) (da_cons (d_bin o_add (d_var 12) (d_int)) (da_nil))))) (da_nil))) (da_nil)))) (ds_one (d_ret (d_and (d_cmp (o_eq hr.units) (C_board_winner.call hG (hr.mono (by decide)) rfl (da_cons (d_var 8) (da_nil))) (d_var 3) (nomark _)) (d_one (d_cmp (o_eq hr.units) (C_board_winner.call hG (hr.mono (by decide)) rfl (da_cons (d_var 9) (da_nil))) (d_var 3) (nomark _))))))))))))))
theorem cal_law_right {f : Addr} {fd : FuncData} (F : FunD K "_law_right" "_law_right" (defArgs st_law_right) (defBody st_law_right) (defScope st_law_right) [] [] f fd) (hm : mg "_law_right" = some (.ref f)) (G : FnG P w K mg base CX0 20 f fd ["pot"] (spD ⟨K, w⟩ 1 F_law_right)) : Cal P w K mg base 20 "_law_right" 1 F_law_right := Cal.of F hm G rfl (fun _ _ _ _ _ _ us hl => match us, hl with | [_], _ => rfl)
/-! ### law -/
abbrev st_law : Stmt := top 41
abbrev N_law : List Str := ["script", "place", "pot", "lap"]
theorem sc_law : FnScope N_law ["script"] (defScope st_law) := ⟨rfl, rfl, rfl, by decide +kernel, rfl, by decide +kernel, by decide +kernel⟩
def s_law_0 : MS := mAsg 2 (mCallF 2 F_law_pot (mCons (mVar 0) (mCons (mVar 1) (mNil))))
def s_law_1 : MS := mIfS (mNotT (mB (mCall (pure1 vAll) (mCons (mComp (iR1 (mCons (mInt 3) (mNil))) (gN 3) (mYes) (mCallF 1 F_law_right (mCons (mVar 2) (mNil))) [3]) (mNil))))) (mRet (mBool false)) (mSkip)
def s_law_2 : MS := mFor (iL (mCallF 2 F_law_cells (mCons (mVar 0) (mCons (mInt 2) (mNil))))) (gN 1) (mSeq (s_law_0) (s_law_1))
def b_law : MS := mSeq (s_law_2) (mRet (mBool true))
def F_law : Fn := fnD 4 b_law
theorem ok_law {f : Addr} {fd : FuncData} (F : FunD K "law" "law" (defArgs st_law) (defBody st_law) (defScope st_law) [] [] f fd) (T : Tx K mg) (C_law_cells : Cal P w K mg base 1 "_law_cells" 2 F_law_cells) (C_law_pot : Cal P w K mg base 1 "_law_pot" 2 F_law_pot) (C_law_right : Cal P w K mg base 20 "_law_right" 1 F_law_right) : FnG P w K mg base CX0 21 f fd ["script"] (spD ⟨K, w⟩ 1 F_law) := by
  refine fn_mk F (k := 20) sc_law rfl rfl (b := b_law) fun cdv A outer s H E hG hr => ?_
  have nd := sc_law.nd
  exact ds_cons (d_for PassesOwn.never rfl (di_list (C_law_cells.call hG (hr.mono (by decide)) rfl (da_cons (d_var 0) (da_cons (d_int) (da_nil))))) (dg_name 1 nd (.inl rfl)) (ds_cons (d_set 2 nd (.inr rfl) (C_law_pot.call hG (hr.mono (by decide)) rfl (da_cons (d_var 0) (da_cons (d_var 1) (da_nil))))) (ds_one (d_ifS (d_notT (d_valT (d_callB (c_all rfl) rfl T.f_all b_all (da_cons (d_comp [("lap", 3)] rfl nd (di_range1 rfl T.f_range (da_cons (d_int) (da_nil))) (blkOk_by (by kernel_rfl)) (fun _ _ _ _ _ => dgc_name 3 nd (.inl rfl) rfl (by decide) (.inr rfl)) (fun _ _ _ _ _ => dts_nil) (fun _ _ _ _ _ => C_law_right.call hG (hr.mono (by decide)) rfl (da_cons (d_var 2) (da_nil)))) (da_nil))))) (ds_one (d_ret (d_bool))) (ds_nil))))) (ds_one (d_ret (d_bool)))
theorem cal_law {f : Addr} {fd : FuncData} (F : FunD K "law" "law" (defArgs st_law) (defBody st_law) (defScope st_law) [] [] f fd) (hm : mg "law" = some (.ref f)) (G : FnG P w K mg base CX0 21 f fd ["script"] (spD ⟨K, w⟩ 1 F_law)) : Cal P w K mg base 21 "law" 1 F_law := Cal.of F hm G rfl (fun _ _ _ _ _ _ us hl => match us, hl with | [_], _ => rfl)
end
/-! ### the head -/
def d_is_integer : He.DefD := ⟨("is_integer", none), "is_integer", "is_integer", defArgs st_is_integer, defBody st_is_integer, defScope st_is_integer, [], []⟩
def d_is_ascending : He.DefD := ⟨("is_ascending", none), "is_ascending", "is_ascending", defArgs st_is_ascending, defBody st_is_ascending, defScope st_is_ascending, [], []⟩
def d_check_side : He.DefD := ⟨("check_side", none), "check_side", "check_side", defArgs st_check_side, defBody st_check_side, defScope st_check_side, [], []⟩
def d_lays_of : He.DefD := ⟨("lays_of", none), "lays_of", "lays_of", defArgs st_lays_of, defBody st_lays_of, defScope st_lays_of, [], []⟩
def d_without : He.DefD := ⟨("without", none), "without", "without", defArgs st_without, defBody st_without, defScope st_without, [], []⟩
def d_beside : He.DefD := ⟨("beside", none), "beside", "beside", defArgs st_beside, defBody st_beside, defScope st_beside, [], []⟩
def d_Seen_init : He.DefD := ⟨("Seen", some "__init__"), "__init__", "Seen.__init__", defArgs st_Seen_init, defBody st_Seen_init, defScope st_Seen_init, [], []⟩
def d_law_pot : He.DefD := ⟨("_law_pot", none), "_law_pot", "_law_pot", defArgs st_law_pot, defBody st_law_pot, defScope st_law_pot, [], []⟩
def d_law_take : He.DefD := ⟨("_law_take", none), "_law_take", "_law_take", defArgs st_law_take, defBody st_law_take, defScope st_law_take, [], []⟩
def d_law_cells : He.DefD := ⟨("_law_cells", none), "_law_cells", "_law_cells", defArgs st_law_cells, defBody st_law_cells, defScope st_law_cells, [], []⟩
def d_law_lays : He.DefD := ⟨("_law_lays", none), "_law_lays", "_law_lays", defArgs st_law_lays, defBody st_law_lays, defScope st_law_lays, [], []⟩
def d_law_left : He.DefD := ⟨("_law_left", none), "_law_left", "_law_left", defArgs st_law_left, defBody st_law_left, defScope st_law_left, [], []⟩
def d_law_other : He.DefD := ⟨("_law_other", none), "_law_other", "_law_other", defArgs st_law_other, defBody st_law_other, defScope st_law_other, [], []⟩
def d_law_parts : He.DefD := ⟨("_law_parts", none), "_law_parts", "_law_parts", defArgs st_law_parts, defBody st_law_parts, defScope st_law_parts, [], []⟩
def d_is_between : He.DefD := ⟨("is_between", none), "is_between", "is_between", defArgs st_is_between, defBody st_is_between, defScope st_is_between, [], []⟩
def d_parts_of : He.DefD := ⟨("parts_of", none), "parts_of", "parts_of", defArgs st_parts_of, defBody st_parts_of, defScope st_parts_of, [], []⟩
def d_Seen_wins : He.DefD := ⟨("Seen", some "wins"), "wins", "Seen.wins", defArgs st_Seen_wins, defBody st_Seen_wins, defScope st_Seen_wins, [], []⟩
def d_law_board : He.DefD := ⟨("_law_board", none), "_law_board", "_law_board", defArgs st_law_board, defBody st_law_board, defScope st_law_board, [], []⟩
def d_law_wins : He.DefD := ⟨("_law_wins", none), "_law_wins", "_law_wins", defArgs st_law_wins, defBody st_law_wins, defScope st_law_wins, [], []⟩
def d_is_square : He.DefD := ⟨("is_square", none), "is_square", "is_square", defArgs st_is_square, defBody st_is_square, defScope st_is_square, [], []⟩
def d_is_board : He.DefD := ⟨("is_board", none), "is_board", "is_board", defArgs st_is_board, defBody st_is_board, defScope st_is_board, [], []⟩
def d_check_board : He.DefD := ⟨("check_board", none), "check_board", "check_board", defArgs st_check_board, defBody st_check_board, defScope st_check_board, [], []⟩
def d_lays : He.DefD := ⟨("lays", none), "lays", "lays", defArgs st_lays, defBody st_lays, defScope st_lays, [], []⟩
def d_parts : He.DefD := ⟨("parts", none), "parts", "parts", defArgs st_parts, defBody st_parts, defScope st_parts, [], []⟩
def d_board_winner : He.DefD := ⟨("board_winner", none), "board_winner", "board_winner", defArgs st_board_winner, defBody st_board_winner, defScope st_board_winner, [], []⟩
def d_good_lays : He.DefD := ⟨("good_lays", none), "good_lays", "good_lays", defArgs st_good_lays, defBody st_good_lays, defScope st_good_lays, [], []⟩
def d_law_word : He.DefD := ⟨("_law_word", none), "_law_word", "_law_word", defArgs st_law_word, defBody st_law_word, defScope st_law_word, [], []⟩
def d_law_right : He.DefD := ⟨("_law_right", none), "_law_right", "_law_right", defArgs st_law_right, defBody st_law_right, defScope st_law_right, [], []⟩
def d_law : He.DefD := ⟨("law", none), "law", "law", defArgs st_law, defBody st_law, defScope st_law, [], []⟩
def fns : List He.DefD := [d_is_integer, d_is_ascending, d_check_side, d_lays_of, d_without, d_beside, d_Seen_init, d_law_pot, d_law_take, d_law_cells, d_law_lays, d_law_left, d_law_other, d_law_parts, d_is_between, d_parts_of, d_Seen_wins, d_law_board, d_law_wins, d_is_square, d_is_board, d_check_board, d_lays, d_parts, d_board_winner, d_good_lays, d_law_word, d_law_right, d_law]
def fas : List He.Fa := [.glo "is_integer", .glo "is_ascending", .glo "check_side", .glo "lays_of", .glo "without", .glo "beside", .glo "_law_pot", .glo "_law_take", .glo "_law_cells", .glo "_law_lays", .glo "_law_left", .glo "_law_other", .glo "_law_parts", .glo "is_between", .glo "parts_of", .glo "_law_board", .glo "_law_wins", .glo "is_square", .glo "is_board", .glo "check_board", .glo "lays", .glo "parts", .glo "board_winner", .glo "good_lays", .glo "_law_word", .glo "_law_right", .glo "law", .free "abs", .free "all", .free "any", .free "bool", .free "dict", .free "int", .free "isinstance", .free "len", .free "list", .free "max", .free "min", .free "range", .free "repr", .free "set", .free "sorted", .free "str", .free "sum", .free "tuple", .free "zip", .str "LEFT" "left", .str "RIGHT" "right", .int "MOST_SQUARES" 12, .int "LAST" 5, .str "FIRST" "first", .str "SECOND" "second", .glo "Seen", .cls "Seen", .noat "Seen" "own_wins", .meth "Seen" "wins", .mkr "Seen"]
def more (K : PySem.W.Frag) : Bool := true
abbrev R : PySem.W.OpenRow := PySem.W.OpenLaw.row PySem.Challenge.rw_whoeverbegins_k52_whole_boards_by_all_la
def names : List PySem.Str := [("__name__" : PySem.Str), ("PlayError" : PySem.Str), ("BadBoard" : PySem.Str), ("NoSide" : PySem.Str), ("is_integer" : PySem.Str), ("is_between" : PySem.Str), ("is_ascending" : PySem.Str), ("LEFT" : PySem.Str), ("RIGHT" : PySem.Str), ("check_side" : PySem.Str), ("MOST_SQUARES" : PySem.Str), ("LAST" : PySem.Str), ("FIRST" : PySem.Str), ("SECOND" : PySem.Str), ("is_square" : PySem.Str), ("is_board" : PySem.Str), ("check_board" : PySem.Str), ("lays_of" : PySem.Str), ("lays" : PySem.Str), ("without" : PySem.Str), ("beside" : PySem.Str), ("parts_of" : PySem.Str), ("parts" : PySem.Str), ("Seen" : PySem.Str), ("board_winner" : PySem.Str), ("good_lays" : PySem.Str), ("_law_pot" : PySem.Str), ("_law_take" : PySem.Str), ("_law_cells" : PySem.Str), ("_law_board" : PySem.Str), ("_law_lays" : PySem.Str), ("_law_left" : PySem.Str), ("_law_other" : PySem.Str), ("_law_wins" : PySem.Str), ("_law_word" : PySem.Str), ("_law_parts" : PySem.Str), ("_law_right" : PySem.Str)]
def lawPlace : Nat := 41
theorem facts {P : Program} {w : World} {K : PySem.W.Frag} {h : Heap} {mg : Str → Option Value} {f : Addr} (X : K.In h) (G : h.Ns mainGlobals mg) (hfa : mg ("law" : Str) = some (.ref f)) (c : He.SaysD fas fns K) (cm : more K = true) :
    ∃ fd : FuncData, (∀ (s : Shared) (v : Value), BindsTo s fd ⟨[v], []⟩ [("script", v)]) ∧ ∀ base : Heap, FnG P w K mg base CX0 21 f fd ["script"] (spD ⟨K, w⟩ 1 F_law) := by
  obtain ⟨fd_is_integer, D_is_integer⟩ := c.def_ 0 (d := d_is_integer) rfl
  obtain ⟨fd_is_ascending, D_is_ascending⟩ := c.def_ 1 (d := d_is_ascending) rfl
  obtain ⟨fd_check_side, D_check_side⟩ := c.def_ 2 (d := d_check_side) rfl
  obtain ⟨fd_lays_of, D_lays_of⟩ := c.def_ 3 (d := d_lays_of) rfl
  obtain ⟨fd_without, D_without⟩ := c.def_ 4 (d := d_without) rfl
  obtain ⟨fd_beside, D_beside⟩ := c.def_ 5 (d := d_beside) rfl
  obtain ⟨fd_Seen_init, D_Seen_init⟩ := c.def_ 6 (d := d_Seen_init) rfl
  obtain ⟨fd_law_pot, D_law_pot⟩ := c.def_ 7 (d := d_law_pot) rfl
  obtain ⟨fd_law_take, D_law_take⟩ := c.def_ 8 (d := d_law_take) rfl
  obtain ⟨fd_law_cells, D_law_cells⟩ := c.def_ 9 (d := d_law_cells) rfl
  obtain ⟨fd_law_lays, D_law_lays⟩ := c.def_ 10 (d := d_law_lays) rfl
  obtain ⟨fd_law_left, D_law_left⟩ := c.def_ 11 (d := d_law_left) rfl
  obtain ⟨fd_law_other, D_law_other⟩ := c.def_ 12 (d := d_law_other) rfl
  obtain ⟨fd_law_parts, D_law_parts⟩ := c.def_ 13 (d := d_law_parts) rfl
  obtain ⟨fd_is_between, D_is_between⟩ := c.def_ 14 (d := d_is_between) rfl
  obtain ⟨fd_parts_of, D_parts_of⟩ := c.def_ 15 (d := d_parts_of) rfl
  obtain ⟨fd_Seen_wins, D_Seen_wins⟩ := c.def_ 16 (d := d_Seen_wins) rfl
  obtain ⟨fd_law_board, D_law_board⟩ := c.def_ 17 (d := d_law_board) rfl
  obtain ⟨fd_law_wins, D_law_wins⟩ := c.def_ 18 (d := d_law_wins) rfl
  obtain ⟨fd_is_square, D_is_square⟩ := c.def_ 19 (d := d_is_square) rfl
  obtain ⟨fd_is_board, D_is_board⟩ := c.def_ 20 (d := d_is_board) rfl
  obtain ⟨fd_check_board, D_check_board⟩ := c.def_ 21 (d := d_check_board) rfl
  obtain ⟨fd_lays, D_lays⟩ := c.def_ 22 (d := d_lays) rfl
  obtain ⟨fd_parts, D_parts⟩ := c.def_ 23 (d := d_parts) rfl
  obtain ⟨fd_board_winner, D_board_winner⟩ := c.def_ 24 (d := d_board_winner) rfl
  obtain ⟨fd_good_lays, D_good_lays⟩ := c.def_ 25 (d := d_good_lays) rfl
  obtain ⟨fd_law_word, D_law_word⟩ := c.def_ 26 (d := d_law_word) rfl
  obtain ⟨fd_law_right, D_law_right⟩ := c.def_ 27 (d := d_law_right) rfl
  obtain ⟨fd_law, D_law⟩ := c.def_ 28 (d := d_law) rfl
  have g_is_integer := He.glo_ok X G (c.fact 0 (f := .glo "is_integer") rfl)
  have g_is_ascending := He.glo_ok X G (c.fact 1 (f := .glo "is_ascending") rfl)
  have g_check_side := He.glo_ok X G (c.fact 2 (f := .glo "check_side") rfl)
  have g_lays_of := He.glo_ok X G (c.fact 3 (f := .glo "lays_of") rfl)
  have g_without := He.glo_ok X G (c.fact 4 (f := .glo "without") rfl)
  have g_beside := He.glo_ok X G (c.fact 5 (f := .glo "beside") rfl)
  have g_law_pot := He.glo_ok X G (c.fact 6 (f := .glo "_law_pot") rfl)
  have g_law_take := He.glo_ok X G (c.fact 7 (f := .glo "_law_take") rfl)
  have g_law_cells := He.glo_ok X G (c.fact 8 (f := .glo "_law_cells") rfl)
  have g_law_lays := He.glo_ok X G (c.fact 9 (f := .glo "_law_lays") rfl)
  have g_law_left := He.glo_ok X G (c.fact 10 (f := .glo "_law_left") rfl)
  have g_law_other := He.glo_ok X G (c.fact 11 (f := .glo "_law_other") rfl)
  have g_law_parts := He.glo_ok X G (c.fact 12 (f := .glo "_law_parts") rfl)
  have g_is_between := He.glo_ok X G (c.fact 13 (f := .glo "is_between") rfl)
  have g_parts_of := He.glo_ok X G (c.fact 14 (f := .glo "parts_of") rfl)
  have g_law_board := He.glo_ok X G (c.fact 15 (f := .glo "_law_board") rfl)
  have g_law_wins := He.glo_ok X G (c.fact 16 (f := .glo "_law_wins") rfl)
  have g_is_square := He.glo_ok X G (c.fact 17 (f := .glo "is_square") rfl)
  have g_is_board := He.glo_ok X G (c.fact 18 (f := .glo "is_board") rfl)
  have g_check_board := He.glo_ok X G (c.fact 19 (f := .glo "check_board") rfl)
  have g_lays := He.glo_ok X G (c.fact 20 (f := .glo "lays") rfl)
  have g_parts := He.glo_ok X G (c.fact 21 (f := .glo "parts") rfl)
  have g_board_winner := He.glo_ok X G (c.fact 22 (f := .glo "board_winner") rfl)
  have g_good_lays := He.glo_ok X G (c.fact 23 (f := .glo "good_lays") rfl)
  have g_law_word := He.glo_ok X G (c.fact 24 (f := .glo "_law_word") rfl)
  have g_law_right := He.glo_ok X G (c.fact 25 (f := .glo "_law_right") rfl)
  have g_law := He.glo_ok X G (c.fact 26 (f := .glo "law") rfl)
  have T : Tx K mg := ⟨He.free_ok X G (c.fact 27 (f := .free "abs") rfl), He.free_ok X G (c.fact 28 (f := .free "all") rfl), He.free_ok X G (c.fact 29 (f := .free "any") rfl), He.free_ok X G (c.fact 30 (f := .free "bool") rfl), He.free_ok X G (c.fact 31 (f := .free "dict") rfl), He.free_ok X G (c.fact 32 (f := .free "int") rfl), He.free_ok X G (c.fact 33 (f := .free "isinstance") rfl), He.free_ok X G (c.fact 34 (f := .free "len") rfl), He.free_ok X G (c.fact 35 (f := .free "list") rfl), He.free_ok X G (c.fact 36 (f := .free "max") rfl), He.free_ok X G (c.fact 37 (f := .free "min") rfl), He.free_ok X G (c.fact 38 (f := .free "range") rfl), He.free_ok X G (c.fact 39 (f := .free "repr") rfl), He.free_ok X G (c.fact 40 (f := .free "set") rfl), He.free_ok X G (c.fact 41 (f := .free "sorted") rfl), He.free_ok X G (c.fact 42 (f := .free "str") rfl), He.free_ok X G (c.fact 43 (f := .free "sum") rfl), He.free_ok X G (c.fact 44 (f := .free "tuple") rfl), He.free_ok X G (c.fact 45 (f := .free "zip") rfl), Glb.str (He.str_ok X G (c.fact 46 (f := .str "LEFT" "left") rfl)), Glb.str (He.str_ok X G (c.fact 47 (f := .str "RIGHT" "right") rfl)), Glb.int (He.int_ok X G (c.fact 48 (f := .int "MOST_SQUARES" 12) rfl)), Glb.int (He.int_ok X G (c.fact 49 (f := .int "LAST" 5) rfl)), Glb.str (He.str_ok X G (c.fact 50 (f := .str "FIRST" "first") rfl)), Glb.str (He.str_ok X G (c.fact 51 (f := .str "SECOND" "second") rfl)), He.cls_ok (c.fact 53 (f := .cls "Seen") rfl), He.noat_ok (c.fact 54 (f := .noat "Seen" "own_wins") rfl)⟩
  have e : f = He.ga K "law" := by
    have := hfa.symm.trans g_law
    simpa using this
  subst e
  refine ⟨fd_law, fun s v => FunD.bindsA (ps := ["script"]) D_law (fun _ _ _ _ _ _ us hl => match us, hl with | [_], _ => rfl) s [v] rfl, fun base => ?_⟩
  have G_is_integer := ok_is_integer (P := P) (w := w) (mg := mg) (base := base) D_is_integer T
  have C_is_integer := cal_is_integer D_is_integer g_is_integer G_is_integer
  have G_is_ascending := ok_is_ascending (P := P) (w := w) (mg := mg) (base := base) D_is_ascending T
  have C_is_ascending := cal_is_ascending D_is_ascending g_is_ascending G_is_ascending
  have G_check_side := ok_check_side (P := P) (w := w) (mg := mg) (base := base) D_check_side T
  have C_check_side := cal_check_side D_check_side g_check_side G_check_side
  have G_lays_of := ok_lays_of (P := P) (w := w) (mg := mg) (base := base) D_lays_of T
  have C_lays_of := cal_lays_of D_lays_of g_lays_of G_lays_of
  have G_without := ok_without (P := P) (w := w) (mg := mg) (base := base) D_without T
  have C_without := cal_without D_without g_without G_without
  have G_beside := ok_beside (P := P) (w := w) (mg := mg) (base := base) D_beside T
  have C_beside := cal_beside D_beside g_beside G_beside
  have G_Seen_init := ok_Seen_init (P := P) (w := w) (mg := mg) (base := base) D_Seen_init T
  have MK_Seen := cal_Seen_init D_Seen_init (He.glo_ok X G (c.fact 52 (f := .glo "Seen") rfl)) (He.mkr_ok (c.fact 56 (f := .mkr "Seen") rfl)) G_Seen_init
  have G_law_pot := ok_law_pot (P := P) (w := w) (mg := mg) (base := base) D_law_pot T
  have C_law_pot := cal_law_pot D_law_pot g_law_pot G_law_pot
  have G_law_take := ok_law_take (P := P) (w := w) (mg := mg) (base := base) D_law_take T
  have C_law_take := cal_law_take D_law_take g_law_take G_law_take
  have G_law_cells := ok_law_cells (P := P) (w := w) (mg := mg) (base := base) D_law_cells T
  have C_law_cells := cal_law_cells D_law_cells g_law_cells G_law_cells
  have G_law_lays := ok_law_lays (P := P) (w := w) (mg := mg) (base := base) D_law_lays T
  have C_law_lays := cal_law_lays D_law_lays g_law_lays G_law_lays
  have G_law_left := ok_law_left (P := P) (w := w) (mg := mg) (base := base) D_law_left T
  have C_law_left := cal_law_left D_law_left g_law_left G_law_left
  have G_law_other := ok_law_other (P := P) (w := w) (mg := mg) (base := base) D_law_other
  have C_law_other := cal_law_other D_law_other g_law_other G_law_other
  have G_law_parts := ok_law_parts (P := P) (w := w) (mg := mg) (base := base) D_law_parts T
  have C_law_parts := cal_law_parts D_law_parts g_law_parts G_law_parts
  have G_is_between := ok_is_between (P := P) (w := w) (mg := mg) (base := base) D_is_between C_is_integer
  have C_is_between := cal_is_between D_is_between g_is_between G_is_between
  have G_parts_of := ok_parts_of (P := P) (w := w) (mg := mg) (base := base) D_parts_of T C_beside
  have C_parts_of := cal_parts_of D_parts_of g_parts_of G_parts_of
  have G_Seen_wins := ok_Seen_wins (P := P) (w := w) (mg := mg) (base := base) D_Seen_wins (He.cls_ok (c.fact 53 (f := .cls "Seen") rfl)) (He.meth_ok (c.fact 55 (f := .meth "Seen" "wins") rfl)) T C_lays_of C_without 16
  have C_Seen_wins := cal_Seen_wins D_Seen_wins (He.cls_ok (c.fact 53 (f := .cls "Seen") rfl)) (He.meth_ok (c.fact 55 (f := .meth "Seen" "wins") rfl)) G_Seen_wins
  have G_law_board := ok_law_board (P := P) (w := w) (mg := mg) (base := base) D_law_board T C_law_take
  have C_law_board := cal_law_board D_law_board g_law_board G_law_board
  have G_law_wins := ok_law_wins (P := P) (w := w) (mg := mg) (base := base) D_law_wins g_law_wins T C_law_lays C_law_left C_law_other 16
  have C_law_wins := cal_law_wins D_law_wins g_law_wins G_law_wins
  have G_is_square := ok_is_square (P := P) (w := w) (mg := mg) (base := base) D_is_square T C_is_between
  have C_is_square := cal_is_square D_is_square g_is_square G_is_square
  have G_is_board := ok_is_board (P := P) (w := w) (mg := mg) (base := base) D_is_board T C_is_square C_is_ascending
  have C_is_board := cal_is_board D_is_board g_is_board G_is_board
  have KC1 := kw_1 D_is_board g_is_board G_is_board
  have G_check_board := ok_check_board (P := P) (w := w) (mg := mg) (base := base) D_check_board C_is_board
  have C_check_board := cal_check_board D_check_board g_check_board G_check_board
  have G_lays := ok_lays (P := P) (w := w) (mg := mg) (base := base) D_lays C_check_board C_check_side C_lays_of
  have C_lays := cal_lays D_lays g_lays G_lays
  have KC2 := kw_2 D_lays g_lays G_lays
  have G_parts := ok_parts (P := P) (w := w) (mg := mg) (base := base) D_parts C_check_board C_parts_of
  have C_parts := cal_parts D_parts g_parts G_parts
  have KC4 := kw_4 D_parts g_parts G_parts
  have G_board_winner := ok_board_winner (P := P) (w := w) (mg := mg) (base := base) D_board_winner T MK_Seen C_check_board C_Seen_wins
  have C_board_winner := cal_board_winner D_board_winner g_board_winner G_board_winner
  have KC0 := kw_0 D_board_winner g_board_winner G_board_winner
  have G_good_lays := ok_good_lays (P := P) (w := w) (mg := mg) (base := base) D_good_lays T MK_Seen C_check_board C_check_side C_lays_of C_Seen_wins C_without
  have C_good_lays := cal_good_lays D_good_lays g_good_lays G_good_lays
  have KC3 := kw_3 D_good_lays g_good_lays G_good_lays
  have G_law_word := ok_law_word (P := P) (w := w) (mg := mg) (base := base) D_law_word C_law_wins
  have C_law_word := cal_law_word D_law_word g_law_word G_law_word
  have G_law_right := ok_law_right (P := P) (w := w) (mg := mg) (base := base) D_law_right T C_law_board C_law_word C_board_winner C_law_lays C_law_wins C_law_other C_law_left C_law_parts KC0 KC1 KC2 KC3 KC4
  have C_law_right := cal_law_right D_law_right g_law_right G_law_right
  exact ok_law (P := P) (w := w) (mg := mg) (base := base) D_law T C_law_cells C_law_pot C_law_right
theorem pot_ok : FnPot F_law_pot := potA_ok (k2 := 19407) (k3 := 6101) (k4 := 99597) (k5 := 18203) (k6 := 7163) (by decide) (by decide) (by decide)
theorem take_ok : FnTake F_law_take := takeA_ok (k1 := 111077) (k2 := 3829) (k3 := 21951) (k4 := 2375) (k5 := 5701) (by decide) (by decide) (by decide) (by decide) (by decide)
theorem cells_ok : FnCells F_law_cells := DL.cells_ok
theorem law_of {B : Int} (hr : FnRight B F_law_right) (hB : 0 ≤ B) (hb : 3 * B ≤ 1000000) (ns : List Int) : ∃ S', F_law [.sc ns] [] = some (.d (.bool true), S') := law_std (fc := F_law_cells) (fp := F_law_pot) (fr := F_law_right) 2 3 (by decide) (by decide) cells_ok pot_ok hr hB hb ns
abbrev hk : PySem.W.Hook := He.hookD fns.length fas fns
def ob (s : PySem.W.SharedT) : He.AlD := He.obsDG fns.length fas fns (HandSHeadRun.getT s)
theorem ob_eq (s : PySem.W.SharedT) : ob s = hk.obs s.abs := He.obsDG_eq (HandSHeadRun.getT_eq s)
end K52

set_option Elab.async false
set_option linter.all false
set_option maxRecDepth 100000
set_option autoImplicit false
namespace K52
open PySem PySem.Spec PyProof.Rows L2 DL
def P_is_integer (a0 : Int) : Option Bool := (pAnd (Option.map (fun _ => true) (some a0)) (pNot (Option.map (fun _ => false) (some a0))))
theorem T_is_integer : FnT1 F_is_integer eI eB P_is_integer := fun S a0 r hr => fn_st (n := 1) (p := P_is_integer a0) [eI a0] (StF.ret (Ev.and (Ev.isi (T := "int") (b := true) (fun _ _ => rfl) (Ev.var 0)) (Ev.not (Ev.isi (T := "bool") (b := false) (fun _ _ => rfl) (Ev.var 0))))) S r hr
def P_is_between (a0 : Int) (a1 : Int) (a2 : Int) : Option Bool := (pAnd (pB1 P_is_integer (some a0)) ((some a1).bind fun a => (some a0).bind fun b => ((fun a b => some (decide (a ≤ b))) a b).bind fun k => if k = true then (some a2).bind fun c => (fun a b => some (decide (a ≤ b))) b c else some false))
theorem T_is_between : FnT3 F_is_between eI eI eI eB P_is_between := fun S a0 a1 a2 r hr => fn_st (n := 3) (p := P_is_between a0 a1 a2) [eI a0, eI a1, eI a2] (StF.ret (Ev.and (Ev.f1 T_is_integer (Ev.var 0)) (Ev.chain tLe tLe (Ev.var 1) (Ev.var 0) (Ev.var 2)))) S r hr
def P_is_square (a0 : (Int × Int)) : Option Bool := (pIf (pOr (pNot (Option.map (fun _ => true) (some a0))) (pB2 (fun a b => some (!decide (a = b))) (pB1 (fun _ => some (2 : Int)) (some a0)) (some (2 : Int)))) (some false) (pAnd (pB3 P_is_between (Option.map Prod.fst (some a0)) (some (0 : Int)) (some (5 : Int))) (pB3 P_is_between (Option.map Prod.snd (some a0)) (some (0 : Int)) (some (5 : Int)))))
theorem T_is_square : FnT1 F_is_square (eP eI eI) eB P_is_square := fun S a0 r hr => fn_st (n := 1) (p := P_is_square a0) [(eP eI eI) a0] (StF.guard (Te.or (Te.not (Te.b (Ev.isi (T := "tuple") (b := true) (fun _ _ => rfl) (Ev.var 0)))) (Te.b (Ev.bin (tNe EqE.int) (Ev.c1 tLenP (Ev.var 0)) (Ev.c (e := eI) (v := 2))))) (StF.ret (Ev.c (e := eB) (v := false))) (StF.ret (Ev.and (Ev.f3 T_is_between (Ev.fst (Ev.var 0)) (Ev.c (e := eI) (v := 0)) (Ev.c (e := eI) (v := 5))) (Ev.f3 T_is_between (Ev.snd (Ev.var 0)) (Ev.c (e := eI) (v := 0)) (Ev.c (e := eI) (v := 5)))))) S r hr
def P_is_ascending (a0 : (List (Int × Int))) : Option Bool := (pB1 (fun xs => some (xs.all id)) ((pB2 (fun a b => some (a.zip b)) (some a0) (pB3 pCut (some a0) (Option.map some (some (1 : Int))) (some none))).bind fun xs => (pFit xs).bind fun xs => pComp (fun (x1 : ((Int × Int) × (Int × Int))) => (some true)) (fun (x1 : ((Int × Int) × (Int × Int))) => (pB2 pLtP (some x1.1) (some x1.2))) xs))
theorem T_is_ascending : FnT1 F_is_ascending (eV (eP eI eI)) eB P_is_ascending := fun S a0 r hr => fn_st (n := 3) (p := P_is_ascending a0) [(eV (eP eI eI)) a0] (StF.ret (Ev.c1 tAll (Ev.comp (f := eB) (It.zipV (Ev.var 0) (Ev.cutV (Ev.var 0) (EvP.some (Ev.c (e := eI) (v := 1))) EvP.none)) (Tg.p2 1 2) (fun x1 => Te.yes) (fun x1 => (Ev.bin tLtP (Ev.var 1) (Ev.var 2)))))) S r hr
def P_is_board (a0 : (List (Int × Int))) : Option Bool := (pIf (pOr (pNot (Option.map (fun _ => true) (some a0))) (pNot ((some (1 : Int)).bind fun a => (pB1 (fun xs => some (xs.length : Int)) (some a0)).bind fun b => ((fun a b => some (decide (a ≤ b))) a b).bind fun k => if k = true then (some (12 : Int)).bind fun c => (fun a b => some (decide (a ≤ b))) b c else some false))) (some false) (pAnd (pB1 (fun xs => some (xs.all id)) ((some a0).bind fun xs => (pFit xs).bind fun xs => pComp (fun (x1 : (Int × Int)) => (some true)) (fun (x1 : (Int × Int)) => (pB1 P_is_square (some x1))) xs)) (pB1 P_is_ascending (some a0))))
theorem T_is_board : FnT1 F_is_board (eV (eP eI eI)) eB P_is_board := fun S a0 r hr => fn_st (n := 2) (p := P_is_board a0) [(eV (eP eI eI)) a0] (StF.guard (Te.or (Te.not (Te.b (Ev.isi (T := "tuple") (b := true) (fun _ _ => rfl) (Ev.var 0)))) (Te.not (Te.b (Ev.chain tLe tLe (Ev.c (e := eI) (v := 1)) (Ev.c1 tLenV (Ev.var 0)) (Ev.c (e := eI) (v := 12)))))) (StF.ret (Ev.c (e := eB) (v := false))) (StF.ret (Ev.and (Ev.c1 tAll (Ev.comp (f := eB) (It.st (Ev.var 0)) (Tg.n 1) (fun x1 => Te.yes) (fun x1 => (Ev.f1 T_is_square (Ev.var 1))))) (Ev.f1 T_is_ascending (Ev.var 0))))) S r hr
def P_check_board (a0 : (List (Int × Int))) : Option Unit := (Option.map (fun _ => ()) (pIf (pNot (pB1 P_is_board (some a0))) none (some ())))
theorem T_check_board : FnT1 F_check_board (eV (eP eI eI)) eN P_check_board := fun S a0 r hr => fn_stN (n := 1) (p := (pIf (pNot (pB1 P_is_board (some a0))) none (some ()))) [(eV (eP eI eI)) a0] (StN.ite (L1 := fun (_ : Unit) => [.w (.d ((eV (eP eI eI)) a0))]) (Te.not (Te.b (Ev.f1 T_is_board (Ev.var 0)))) StN.raise StN.skip) S r hr
def P_check_side (a0 : Str) : Option Unit := (Option.map (fun _ => ()) (pIf (pOr (pNot (Option.map (fun _ => true) (some a0))) (pB2 (fun a b => some (!decide (a ∈ b))) (some a0) (pB1 pFit (pB2 (fun x xs => some (x :: xs)) (some ("left" : Str)) (pB2 (fun x xs => some (x :: xs)) (some ("right" : Str)) (some ([] : List Str))))))) none (some ())))
theorem T_check_side : FnT1 F_check_side eS eN P_check_side := fun S a0 r hr => fn_stN (n := 1) (p := (pIf (pOr (pNot (Option.map (fun _ => true) (some a0))) (pB2 (fun a b => some (!decide (a ∈ b))) (some a0) (pB1 pFit (pB2 (fun x xs => some (x :: xs)) (some ("left" : Str)) (pB2 (fun x xs => some (x :: xs)) (some ("right" : Str)) (some ([] : List Str))))))) none (some ()))) [eS a0] (StN.ite (L1 := fun (_ : Unit) => [.w (.d (eS a0))]) (Te.or (Te.not (Te.b (Ev.isi (T := "str") (b := true) (fun _ _ => rfl) (Ev.var 0)))) (Te.b (Ev.bin tNinVS (Ev.var 0) (Ev.vtup (EvL.cons (Ev.c (e := eS) (v := "left")) (EvL.cons (Ev.c (e := eS) (v := "right")) (EvL.nil (e := eS)))))))) StN.raise StN.skip) S r hr
def P_lays_of (a0 : (List (Int × Int))) (a1 : Str) : Option (List ((Int × Int) × (Int × Int))) := ((pIf (pB2 (fun a b => some (decide (a = b))) (some a1) (some ("left" : Str))) (pB2 (fun a b => some (a, b)) (some (1 : Int)) (some (0 : Int))) (pB2 (fun a b => some (a, b)) (some (0 : Int)) (some (1 : Int)))).bind fun v1 => (((some a0).bind fun xs => (pFit xs).bind fun xs => pComp (fun (x2 : (Int × Int)) => (some true)) (fun (x2 : (Int × Int)) => (pB2 (fun a b => some (a, b)) (pB2 (fun a b => some (a, b)) (some x2.1) (some x2.2)) (pB2 (fun a b => some (a, b)) (pB2 (fun a b => some (a + b)) (some x2.1) (some v1.1)) (pB2 (fun a b => some (a + b)) (some x2.2) (some v1.2))))) xs).bind fun v3 => (pB1 (fun xs => some xs) ((some v3).bind fun xs => (pFit xs).bind fun xs => pComp (fun (x4 : ((Int × Int) × (Int × Int))) => (pB2 (fun a b => some (decide (a ∈ b))) (Option.map Prod.snd (some x4)) (some a0))) (fun (x4 : ((Int × Int) × (Int × Int))) => (some x4)) xs))))
theorem T_lays_of : FnT2 F_lays_of (eV (eP eI eI)) eS (eV (eP (eP eI eI) (eP eI eI))) P_lays_of := fun S a0 a1 r hr => fn_st (n := 8) (p := P_lays_of a0 a1) [(eV (eP eI eI)) a0, eS a1] (StF.seqN (StN.unp (Ev.ite (Te.b (Ev.bin tEqS (Ev.var 1) (Ev.c (e := eS) (v := "left")))) (Ev.pair (Ev.c (e := eI) (v := 1)) (Ev.c (e := eI) (v := 0))) (Ev.pair (Ev.c (e := eI) (v := 0)) (Ev.c (e := eI) (v := 1)))) (Tg.p2 2 3)) (fun v1 => (StF.seqN (StN.asg 4 (Ev.s (Ev.comp (f := (eP (eP eI eI) (eP eI eI))) (It.st (Ev.var 0)) (Tg.p2 5 6) (fun x2 => Te.yes) (fun x2 => (Ev.pair (Ev.pair (Ev.var 5) (Ev.var 6)) (Ev.pair (Ev.bin tAdd (Ev.var 5) (Ev.var 2)) (Ev.bin tAdd (Ev.var 6) (Ev.var 3)))))))) (fun v3 => (StF.ret (Ev.c1 tTupL (Ev.comp (f := (eP (eP eI eI) (eP eI eI))) (It.sl (Ev.var 4)) (Tg.n 7) (fun x4 => (Te.b (Ev.bin (tInVE (EqE.p EqE.int EqE.int)) (Ev.snd (Ev.var 7)) (Ev.var 0)))) (fun x4 => (Ev.var 7))))))))) S r hr
def P_lays (a0 : (List (Int × Int))) (a1 : Str) : Option (List ((Int × Int) × (Int × Int))) := ((pB1 P_check_board (some a0)).bind fun v1 => ((pB1 P_check_side (some a1)).bind fun v2 => (pB2 P_lays_of (some a0) (some a1))))
theorem T_lays : FnT2 F_lays (eV (eP eI eI)) eS (eV (eP (eP eI eI) (eP eI eI))) P_lays := fun S a0 a1 r hr => fn_st (n := 2) (p := P_lays a0 a1) [(eV (eP eI eI)) a0, eS a1] (StF.seqN (StN.expr (Ev.f1 T_check_board (Ev.var 0))) (fun v1 => (StF.seqN (StN.expr (Ev.f1 T_check_side (Ev.var 1))) (fun v2 => (StF.ret (Ev.f2 T_lays_of (Ev.var 0) (Ev.var 1))))))) S r hr
def P_without (a0 : (List (Int × Int))) (a1 : ((Int × Int) × (Int × Int))) : Option (List (Int × Int)) := (pB1 (fun xs => some xs) ((some a0).bind fun xs => (pFit xs).bind fun xs => pComp (fun (x1 : (Int × Int)) => (pB2 (fun a b => some (!decide (a ∈ b))) (some x1) (Option.map (fun x => [x.1, x.2]) (some a1)))) (fun (x1 : (Int × Int)) => (some x1)) xs))
theorem T_without : FnT2 F_without (eV (eP eI eI)) (eP (eP eI eI) (eP eI eI)) (eV (eP eI eI)) P_without := fun S a0 a1 r hr => fn_st (n := 3) (p := P_without a0 a1) [(eV (eP eI eI)) a0, (eP (eP eI eI) (eP eI eI)) a1] (StF.ret (Ev.c1 tTupL (Ev.comp (f := (eP eI eI)) (It.st (Ev.var 0)) (Tg.n 2) (fun x1 => (Te.b (Ev.bin (tNinVE (EqE.p EqE.int EqE.int)) (Ev.var 2) (Ev.pairV (Ev.var 1))))) (fun x1 => (Ev.var 2))))) S r hr
def P_beside (a0 : (Int × Int)) (a1 : (Int × Int)) : Option Bool := (pB2 (fun a b => some (decide (a = b))) (pB2 (fun a b => some (a + b)) (pB1 (fun a => some (absI a)) (pB2 (fun a b => some (a - b)) (Option.map Prod.fst (some a0)) (Option.map Prod.fst (some a1)))) (pB1 (fun a => some (absI a)) (pB2 (fun a b => some (a - b)) (Option.map Prod.snd (some a0)) (Option.map Prod.snd (some a1))))) (some (1 : Int)))
theorem T_beside : FnT2 F_beside (eP eI eI) (eP eI eI) eB P_beside := fun S a0 a1 r hr => fn_st (n := 2) (p := P_beside a0 a1) [(eP eI eI) a0, (eP eI eI) a1] (StF.ret (Ev.bin (tEq EqE.int) (Ev.bin tAdd (Ev.c1 tAbs (Ev.bin tSub (Ev.fst (Ev.var 0)) (Ev.fst (Ev.var 1)))) (Ev.c1 tAbs (Ev.bin tSub (Ev.snd (Ev.var 0)) (Ev.snd (Ev.var 1))))) (Ev.c (e := eI) (v := 1)))) S r hr
def P_parts_of (a0 : (List (Int × Int))) : Option (List (List (Int × Int))) := ((pB2 (fun a b => some (a, b)) (pB1 pFit (some ([] : List (List (Int × Int))))) (pB1 (fun xs => some xs) (some a0))).bind fun v1 => ((pWhile (fun (s2 : (List (List (Int × Int))) × (List (Int × Int))) => (pB2 (fun a b => some (!decide (a = b))) (some s2.2) (pB1 pFit (some ([] : List (Int × Int)))))) (fun (s2 : (List (List (Int × Int))) × (List (Int × Int))) => ((pB2 (fun a b => some (a, b)) (pB1 pFit (pB2 (fun x xs => some (x :: xs)) (pB2 pIx (some s2.2) (some (0 : Int))) (some ([] : List (Int × Int))))) (pB1 pFit (pB2 (fun x xs => some (x :: xs)) (pB2 pIx (some s2.2) (some (0 : Int))) (some ([] : List (Int × Int)))))).bind fun v3 => ((pWhile (fun (s4 : (List (Int × Int)) × (List (Int × Int))) => (Option.map (fun a => !decide (s4.1 = a)) (pB1 pFit (some ([] : List (Int × Int)))))) (fun (s4 : (List (Int × Int)) × (List (Int × Int))) => ((pPop s4.1).bind fun v5 => (((some s2.2).bind fun xs => (pFit xs).bind fun xs => pComp (fun (x6 : (Int × Int)) => (pAnd (Option.map (fun a => !decide (a ∈ s4.2)) (some x6)) (pB2 P_beside (some v5.2) (some x6)))) (fun (x6 : (Int × Int)) => (some x6)) xs).bind fun v7 => (((some v7).bind fun a => pFit (s4.2 ++ a)).bind fun v8 => (Option.map (fun v9 => (v9, v8)) ((some v7).bind fun a => pFit (v5.1 ++ a))))))) 20 (v3.2, v3.1)).bind fun v10 => ((some ()).bind fun v11 => (((pB1 (fun xs => some xs) (pB1 pSortP (some v10.2))).bind fun a => pFit (s2.1 ++ [a])).bind fun v12 => (Option.map (fun v14 => (v12, v14)) ((some s2.2).bind fun xs => (pFit xs).bind fun xs => pComp (fun (x13 : (Int × Int)) => (pB2 (fun a b => some (!decide (a ∈ b))) (some x13) (some v10.2))) (fun (x13 : (Int × Int)) => (some x13)) xs))))))) 20 (v1.1, v1.2)).bind fun v15 => ((some ()).bind fun v16 => (pB1 (fun xs => some xs) (some v15.1)))))
theorem T_parts_of : FnT1 F_parts_of (eV (eP eI eI)) (eV (eV (eP eI eI))) P_parts_of := fun S a0 r hr => fn_st (n := 8) (p := P_parts_of a0) [(eV (eP eI eI)) a0] (StF.seqN (StN.par2 1 2 (EvS.new (EvL.nil (e := (eV (eP eI eI))))) (Ev.s (Ev.c1 tLstV (Ev.var 0)))) (fun v1 => (StF.seqN (StN.while 20 (fun (s2 : (List (List (Int × Int))) × (List (Int × Int))) => [.w (.d ((eV (eP eI eI)) a0)), .m (.lst (List.map (eV (eP eI eI)) s2.1)), .w (.d ((eL (eP eI eI)) s2.2)), .j, .j, .j, .j, .j]) (v1.1, v1.2) (Le.e (Le.e (Le.e (Le.j (Le.j (Le.j (Le.j (Le.j Le.nil)))))))) (fun s2 => (Te.b (Ev.bin (tNe (EqE.l (EqE.p EqE.int EqE.int))) (Ev.var 2) (Ev.lst (EvL.nil (e := (eP eI eI))))))) (fun s2 => (StN.seq (StN.par2 3 4 (EvS.new (EvL.cons (Ev.bin tIxL (Ev.var 2) (Ev.c (e := eI) (v := 0))) (EvL.nil (e := (eP eI eI))))) (EvS.new (EvL.cons (Ev.bin tIxL (Ev.var 2) (Ev.c (e := eI) (v := 0))) (EvL.nil (e := (eP eI eI)))))) (fun v3 => (StN.seq (StN.while 20 (fun (s4 : (List (Int × Int)) × (List (Int × Int))) => [.w (.d ((eV (eP eI eI)) a0)), .m (.lst (List.map (eV (eP eI eI)) s2.1)), .w (.d ((eL (eP eI eI)) s2.2)), .m (.lst (List.map (eP eI eI) s4.2)), .m (.lst (List.map (eP eI eI) s4.1)), .j, .j, .j]) (v3.2, v3.1) (Le.e (Le.e (Le.e (Le.e (Le.e (Le.j (Le.j (Le.j Le.nil)))))))) (fun s4 => (Te.b (Ev.neM 4 (EqE.p EqE.int EqE.int) (Ev.lst (EvL.nil (e := (eP eI eI))))))) (fun s4 => (StN.seq (StN.pop 4 5 (xs := s4.1)) (fun v5 => (StN.seq (StN.asg 6 (Ev.s (Ev.comp (f := (eP eI eI)) (It.sl (Ev.var 2)) (Tg.n 7) (fun x6 => (Te.and (Te.b (Ev.ninM 3 (EqE.p EqE.int EqE.int) (Ev.var 7))) (Te.b (Ev.f2 T_beside (Ev.var 5) (Ev.var 7))))) (fun x6 => (Ev.var 7))))) (fun v7 => (StN.seq (StN.ext 3 (xs := s4.2) (Ev.var 6)) (fun v8 => (StN.to (L := [.w (.d ((eV (eP eI eI)) a0)), .m (.lst (List.map (eV (eP eI eI)) s2.1)), .w (.d ((eL (eP eI eI)) s2.2)), .m (.lst (List.map (eP eI eI) v8)), .m (.lst (List.map (eP eI eI) v5.1)), .w (.d ((eP eI eI) v5.2)), .w (.d ((eL (eP eI eI)) v7)), .j]) (StN.ext 4 (xs := v5.1) (Ev.var 6)) (fun v9 => (v9, v8)) (fun v9 => (Le.e (Le.e (Le.e (Le.e (Le.e (Le.j (Le.j (Le.j Le.nil)))))))))))))))))) (fun v10 => (StN.seq (StN.frz 3 (ds := List.map (eP eI eI) v10.2)) (fun v11 => (StN.seq (StN.app 1 (xs := s2.1) (Ev.c1 tTupL (Ev.c1 tSortP (Ev.var 3)))) (fun v12 => (StN.to (L := [.w (.d ((eV (eP eI eI)) a0)), .m (.lst (List.map (eV (eP eI eI)) v12)), .w (.d ((eL (eP eI eI)) s2.2)), .w (.d ((eL (eP eI eI)) v10.2)), .m (.lst (List.map (eP eI eI) v10.1)), .j, .j, .j]) (StN.asg 2 (Ev.s (Ev.comp (f := (eP eI eI)) (It.sl (Ev.var 2)) (Tg.n 7) (fun x13 => (Te.b (Ev.bin (tNinLE (EqE.p EqE.int EqE.int)) (Ev.var 7) (Ev.var 3)))) (fun x13 => (Ev.var 7))))) (fun v14 => (v12, v14)) (fun v14 => (Le.e (Le.e (Le.e (Le.j (Le.j (Le.j (Le.j (Le.j Le.nil)))))))))))))))))))) (fun v15 => (StF.seqN (StN.frz 1 (ds := List.map (eV (eP eI eI)) v15.1)) (fun v16 => (StF.ret (Ev.c1 tTupL (Ev.var 1))))))))) S r hr
def P_parts (a0 : (List (Int × Int))) : Option (List (List (Int × Int))) := ((pB1 P_check_board (some a0)).bind fun v1 => (pB1 P_parts_of (some a0)))
theorem T_parts : FnT1 F_parts (eV (eP eI eI)) (eV (eV (eP eI eI))) P_parts := fun S a0 r hr => fn_st (n := 1) (p := P_parts a0) [(eV (eP eI eI)) a0] (StF.seqN (StN.expr (Ev.f1 T_check_board (Ev.var 0))) (fun v1 => (StF.ret (Ev.f1 T_parts_of (Ev.var 0))))) S r hr
def P_law_lays (a0 : (List (Int × Int))) (a1 : Str) : Option (List ((Int × Int) × (Int × Int))) := ((pB1 pFit (some ([] : List ((Int × Int) × (Int × Int))))).bind fun v1 => (((some a0).bind fun xs => pFor (fun (s2 : (List ((Int × Int) × (Int × Int)))) (x3 : (Int × Int)) => ((pIf (pB2 (fun a b => some (decide (a = b))) (some a1) (some ("left" : Str))) (pB2 (fun a b => some (a, b)) (pB2 (fun a b => some (a + b)) (some x3.1) (some (1 : Int))) (some x3.2)) (pB2 (fun a b => some (a, b)) (some x3.1) (pB2 (fun a b => some (a + b)) (some x3.2) (some (1 : Int))))).bind fun v4 => (Option.map (fun v5 => v5) ((pIf (pB2 (fun a b => some (decide (a ∈ b))) (some v4) (some a0)) (pB1 pFit (pB2 (fun x xs => some (x :: xs)) (pB2 (fun a b => some (a, b)) (pB2 (fun a b => some (a, b)) (some x3.1) (some x3.2)) (some v4)) (some ([] : List ((Int × Int) × (Int × Int)))))) (pB1 pFit (some ([] : List ((Int × Int) × (Int × Int)))))).bind fun a => pFit (s2 ++ a))))) xs v1).bind fun v6 => ((some ()).bind fun v7 => (pB1 pSortQ (some v6)))))
theorem T_law_lays : FnT2 F_law_lays (eV (eP eI eI)) eS (eL (eP (eP eI eI) (eP eI eI))) P_law_lays := fun S a0 a1 r hr => fn_st (n := 6) (p := P_law_lays a0 a1) [(eV (eP eI eI)) a0, eS a1] (StF.seqN (StN.asg 2 (EvS.new (EvL.nil (e := (eP (eP eI eI) (eP eI eI)))))) (fun v1 => (StF.seqN (StN.for (fun (s2 : (List ((Int × Int) × (Int × Int)))) => [.w (.d ((eV (eP eI eI)) a0)), .w (.d (eS a1)), .m (.lst (List.map (eP (eP eI eI) (eP eI eI)) s2)), .j, .j, .j]) v1 (It.st (Ev.var 0)) (Le.e (Le.e (Le.e (Le.j (Le.j (Le.j Le.nil)))))) (Tg.p2 3 4) (fun s2 x3 => (StN.seq (StN.asg 5 (Ev.s (Ev.ite (Te.b (Ev.bin tEqS (Ev.var 1) (Ev.c (e := eS) (v := "left")))) (Ev.pair (Ev.bin tAdd (Ev.var 3) (Ev.c (e := eI) (v := 1))) (Ev.var 4)) (Ev.pair (Ev.var 3) (Ev.bin tAdd (Ev.var 4) (Ev.c (e := eI) (v := 1))))))) (fun v4 => (StN.to (L := [.w (.d ((eV (eP eI eI)) a0)), .w (.d (eS a1)), .m (.lst (List.map (eP (eP eI eI) (eP eI eI)) s2)), .w (.d (eI x3.1)), .w (.d (eI x3.2)), .w (.d ((eP eI eI) v4))]) (StN.ext 2 (xs := s2) (Ev.ite (Te.b (Ev.bin (tInVE (EqE.p EqE.int EqE.int)) (Ev.var 5) (Ev.var 0))) (Ev.lst (EvL.cons (Ev.pair (Ev.pair (Ev.var 3) (Ev.var 4)) (Ev.var 5)) (EvL.nil (e := (eP (eP eI eI) (eP eI eI)))))) (Ev.lst (EvL.nil (e := (eP (eP eI eI) (eP eI eI))))))) (fun v5 => v5) (fun v5 => (Le.e (Le.e (Le.e (Le.j (Le.j (Le.j Le.nil)))))))))))) (fun v6 => (StF.seqN (StN.frz 2 (ds := List.map (eP (eP eI eI) (eP eI eI)) v6)) (fun v7 => (StF.ret (Ev.c1 tSortQ (Ev.var 2))))))))) S r hr
def P_law_left (a0 : (List (Int × Int))) (a1 : ((Int × Int) × (Int × Int))) : Option (List (Int × Int)) := (pB1 (fun xs => some xs) ((some a0).bind fun xs => (pFit xs).bind fun xs => pComp (fun (x1 : (Int × Int)) => (pB2 (fun a b => some (!decide (a ∈ b))) (some x1) (Option.map (fun x => [x.1, x.2]) (some a1)))) (fun (x1 : (Int × Int)) => (some x1)) xs))
theorem T_law_left : FnT2 F_law_left (eV (eP eI eI)) (eP (eP eI eI) (eP eI eI)) (eV (eP eI eI)) P_law_left := fun S a0 a1 r hr => fn_st (n := 3) (p := P_law_left a0 a1) [(eV (eP eI eI)) a0, (eP (eP eI eI) (eP eI eI)) a1] (StF.ret (Ev.c1 tTupL (Ev.comp (f := (eP eI eI)) (It.st (Ev.var 0)) (Tg.n 2) (fun x1 => (Te.b (Ev.bin (tNinVE (EqE.p EqE.int EqE.int)) (Ev.var 2) (Ev.pairV (Ev.var 1))))) (fun x1 => (Ev.var 2))))) S r hr
def P_law_other (a0 : Str) : Option Str := (pIf (pB2 (fun a b => some (decide (a = b))) (some a0) (some ("left" : Str))) (some ("right" : Str)) (some ("left" : Str)))
theorem T_law_other : FnT1 F_law_other eS eS P_law_other := fun S a0 r hr => fn_st (n := 1) (p := P_law_other a0) [eS a0] (StF.ret (Ev.ite (Te.b (Ev.bin tEqS (Ev.var 0) (Ev.c (e := eS) (v := "left")))) (Ev.c (e := eS) (v := "right")) (Ev.c (e := eS) (v := "left")))) S r hr
def P_law_parts (a0 : (List (Int × Int))) : Option (List (List (Int × Int))) := ((pB2 (fun a b => some (a, b)) (pB1 pFit (some ([] : List (List (Int × Int))))) (pB1 (fun xs => some xs) (some a0))).bind fun v1 => ((pWhile (fun (s2 : (List (List (Int × Int))) × (List (Int × Int))) => (pB2 (fun a b => some (!decide (a = b))) (some s2.2) (pB1 pFit (some ([] : List (Int × Int)))))) (fun (s2 : (List (List (Int × Int))) × (List (Int × Int))) => ((pB2 (fun a b => some (a, b)) (pB1 pFit (pB2 (fun x xs => some (x :: xs)) (pB2 pIx (some s2.2) (some (0 : Int))) (some ([] : List (Int × Int))))) (some (0 : Int))).bind fun v3 => ((pWhile (fun (s4 : (List (Int × Int)) × Int) => (pB2 (fun a b => some (decide (a < b))) (some s4.2) (some ((List.map (eP eI eI) s4.1).length : Int)))) (fun (s4 : (List (Int × Int)) × Int) => ((pB1 (pIx s4.1) (some s4.2)).bind fun v5 => ((pB1 pFit (pB2 (fun x xs => some (x :: xs)) (pB2 (fun a b => some (a, b)) (pB2 (fun a b => some (a + b)) (some v5.1) (some (1 : Int))) (some v5.2)) (pB2 (fun x xs => some (x :: xs)) (pB2 (fun a b => some (a, b)) (pB2 (fun a b => some (a - b)) (some v5.1) (some (1 : Int))) (some v5.2)) (pB2 (fun x xs => some (x :: xs)) (pB2 (fun a b => some (a, b)) (some v5.1) (pB2 (fun a b => some (a + b)) (some v5.2) (some (1 : Int)))) (pB2 (fun x xs => some (x :: xs)) (pB2 (fun a b => some (a, b)) (some v5.1) (pB2 (fun a b => some (a - b)) (some v5.2) (some (1 : Int)))) (some ([] : List (Int × Int)))))))).bind fun v6 => ((((some v6).bind fun xs => (pFit xs).bind fun xs => pComp (fun (x7 : (Int × Int)) => (pAnd (pB2 (fun a b => some (decide (a ∈ b))) (some x7) (some s2.2)) (Option.map (fun a => !decide (a ∈ s4.1)) (some x7)))) (fun (x7 : (Int × Int)) => (some x7)) xs).bind fun a => pFit (s4.1 ++ a)).bind fun v8 => (Option.map (fun v9 => (v8, v9)) (pB2 (fun a b => some (a + b)) (some s4.2) (some (1 : Int)))))))) 20 (v3.1, v3.2)).bind fun v10 => ((some ()).bind fun v11 => (((pB1 (fun xs => some xs) (pB1 pSortP (some v10.1))).bind fun a => pFit (s2.1 ++ [a])).bind fun v12 => (Option.map (fun v14 => (v12, v14)) ((some s2.2).bind fun xs => (pFit xs).bind fun xs => pComp (fun (x13 : (Int × Int)) => (pB2 (fun a b => some (!decide (a ∈ b))) (some x13) (some v10.1))) (fun (x13 : (Int × Int)) => (some x13)) xs))))))) 20 (v1.1, v1.2)).bind fun v15 => ((some ()).bind fun v16 => (pB1 (fun xs => some xs) (some v15.1)))))
theorem T_law_parts : FnT1 F_law_parts (eV (eP eI eI)) (eV (eV (eP eI eI))) P_law_parts := fun S a0 r hr => fn_st (n := 9) (p := P_law_parts a0) [(eV (eP eI eI)) a0] (StF.seqN (StN.par2 1 2 (EvS.new (EvL.nil (e := (eV (eP eI eI))))) (Ev.s (Ev.c1 tLstV (Ev.var 0)))) (fun v1 => (StF.seqN (StN.while 20 (fun (s2 : (List (List (Int × Int))) × (List (Int × Int))) => [.w (.d ((eV (eP eI eI)) a0)), .m (.lst (List.map (eV (eP eI eI)) s2.1)), .w (.d ((eL (eP eI eI)) s2.2)), .j, .j, .j, .j, .j, .j]) (v1.1, v1.2) (Le.e (Le.e (Le.e (Le.j (Le.j (Le.j (Le.j (Le.j (Le.j Le.nil))))))))) (fun s2 => (Te.b (Ev.bin (tNe (EqE.l (EqE.p EqE.int EqE.int))) (Ev.var 2) (Ev.lst (EvL.nil (e := (eP eI eI))))))) (fun s2 => (StN.seq (StN.par2 3 4 (EvS.new (EvL.cons (Ev.bin tIxL (Ev.var 2) (Ev.c (e := eI) (v := 0))) (EvL.nil (e := (eP eI eI))))) (Ev.s (Ev.c (e := eI) (v := 0)))) (fun v3 => (StN.seq (StN.while 20 (fun (s4 : (List (Int × Int)) × Int) => [.w (.d ((eV (eP eI eI)) a0)), .m (.lst (List.map (eV (eP eI eI)) s2.1)), .w (.d ((eL (eP eI eI)) s2.2)), .m (.lst (List.map (eP eI eI) s4.1)), .w (.d (eI s4.2)), .j, .j, .j, .j]) (v3.1, v3.2) (Le.e (Le.e (Le.e (Le.e (Le.e (Le.j (Le.j (Le.j (Le.j Le.nil))))))))) (fun s4 => (Te.b (Ev.bin tLt (Ev.var 4) (Ev.lenM 3)))) (fun s4 => (StN.seq (StN.unp (Ev.ixM 3 (Ev.var 4)) (Tg.p2 6 7)) (fun v5 => (StN.seq (StN.asg 5 (Ev.s (Ev.lst (EvL.cons (Ev.pair (Ev.bin tAdd (Ev.var 6) (Ev.c (e := eI) (v := 1))) (Ev.var 7)) (EvL.cons (Ev.pair (Ev.bin tSub (Ev.var 6) (Ev.c (e := eI) (v := 1))) (Ev.var 7)) (EvL.cons (Ev.pair (Ev.var 6) (Ev.bin tAdd (Ev.var 7) (Ev.c (e := eI) (v := 1)))) (EvL.cons (Ev.pair (Ev.var 6) (Ev.bin tSub (Ev.var 7) (Ev.c (e := eI) (v := 1)))) (EvL.nil (e := (eP eI eI)))))))))) (fun v6 => (StN.seq (StN.ext 3 (xs := s4.1) (Ev.comp (f := (eP eI eI)) (It.sl (Ev.var 5)) (Tg.n 8) (fun x7 => (Te.and (Te.b (Ev.bin (tInLE (EqE.p EqE.int EqE.int)) (Ev.var 8) (Ev.var 2))) (Te.b (Ev.ninM 3 (EqE.p EqE.int EqE.int) (Ev.var 8))))) (fun x7 => (Ev.var 8)))) (fun v8 => (StN.to (L := [.w (.d ((eV (eP eI eI)) a0)), .m (.lst (List.map (eV (eP eI eI)) s2.1)), .w (.d ((eL (eP eI eI)) s2.2)), .m (.lst (List.map (eP eI eI) v8)), .w (.d (eI s4.2)), .w (.d ((eL (eP eI eI)) v6)), .w (.d (eI v5.1)), .w (.d (eI v5.2)), .j]) (StN.asg 4 (Ev.s (Ev.bin tAdd (Ev.var 4) (Ev.c (e := eI) (v := 1))))) (fun v9 => (v8, v9)) (fun v9 => (Le.e (Le.e (Le.e (Le.e (Le.e (Le.j (Le.j (Le.j (Le.j Le.nil))))))))))))))))))) (fun v10 => (StN.seq (StN.frz 3 (ds := List.map (eP eI eI) v10.1)) (fun v11 => (StN.seq (StN.app 1 (xs := s2.1) (Ev.c1 tTupL (Ev.c1 tSortP (Ev.var 3)))) (fun v12 => (StN.to (L := [.w (.d ((eV (eP eI eI)) a0)), .m (.lst (List.map (eV (eP eI eI)) v12)), .w (.d ((eL (eP eI eI)) s2.2)), .w (.d ((eL (eP eI eI)) v10.1)), .w (.d (eI v10.2)), .j, .j, .j, .j]) (StN.asg 2 (Ev.s (Ev.comp (f := (eP eI eI)) (It.sl (Ev.var 2)) (Tg.n 8) (fun x13 => (Te.b (Ev.bin (tNinLE (EqE.p EqE.int EqE.int)) (Ev.var 8) (Ev.var 3)))) (fun x13 => (Ev.var 8))))) (fun v14 => (v12, v14)) (fun v14 => (Le.e (Le.e (Le.e (Le.j (Le.j (Le.j (Le.j (Le.j (Le.j Le.nil))))))))))))))))))))) (fun v15 => (StF.seqN (StN.frz 1 (ds := List.map (eV (eP eI eI)) v15.1)) (fun v16 => (StF.ret (Ev.c1 tTupL (Ev.var 1))))))))) S r hr
def D_law_board (a1 : Int) : Dm (Int × Unit) (List (Int × Int)) := (dBind (dBind (dBind (dOpt (some (1 : Int))) fun a => dBind (dBind (dOpt (some (4 : Int))) dTake) fun b => dOpt ((fun a b => some (a + b)) a b)) fun a => dBind (dBind (dOpt (some (1 : Int))) fun a => dBind (dBind (dOpt (some (4 : Int))) dTake) fun b => dOpt ((fun a b => some (a + b)) a b)) fun b => dOpt (some (a, b))) fun v1 => (dBind (dOpt (pB1 pFit (some ([] : List (Int × Int))))) fun v2 => (dBind (dOpt ((pB1 (pRange 0) (some v1.1)).bind fun xs => pFor (fun (s3 : (List (Int × Int))) (x4 : Int) => (Option.map (fun v6 => v6) (((pB1 (pRange 0) (some v1.2)).bind fun xs => (pFit xs).bind fun xs => pComp (fun (x5 : Int) => (some true)) (fun (x5 : Int) => (pB2 (fun a b => some (a, b)) (pB1 (fun a => some a) (some x4)) (pB1 (fun a => some a) (some x5)))) xs).bind fun a => pFit (s3 ++ a)))) xs v2)) fun v7 => (dBind (dOpt (some ())) fun v8 => (dBind (dBind (dBind (dOpt (some v7)) fun xs => dBind (dOpt (pFit xs)) fun xs => dComp (fun (x12 : (Int × Int)) => (dBind (dBind (dOpt (some (5 : Int))) dTake) fun a => dBind (dOpt (some (0 : Int))) fun b => dOpt ((fun a b => some (decide (b < a))) a b))) (fun (x12 : (Int × Int)) => (dOpt (some x12))) xs) fun a => dBind (dOpt (pB3 pCut (some v7) (some none) (Option.map some (some (1 : Int))))) fun b => dOpt (pApp a b)) fun v13 => (dOpt (pB3 pCut (pB1 (fun xs => some xs) (pB1 pSetP (some v13))) (some none) (Option.map some (some a1)))))))))
theorem T_law_board (a1 : Int) : DrF WP F_law_board (fun pn => [.loc pn, .d (eI a1)]) (eV (eP eI eI)) (D_law_board a1) := fn_dr (st := Int × Unit) (Wd := WP) (er := (eV (eP eI eI))) (b := b_law_board) (N := 9) (d := D_law_board a1) (fun pn => [.loc pn, .d (eI a1)]) (fun pn => (DvF.seqN (DvN.par2 2 3 (DvE.bin tAdd (DvE.pure (fun z => (Ev.c (e := eI) (v := 1)))) (DvE.take 0 take_ok (DvE.pure (fun z => (Ev.c (e := eI) (v := 4)))))) (DvE.bin tAdd (DvE.pure (fun z => (Ev.c (e := eI) (v := 1)))) (DvE.take 0 take_ok (DvE.pure (fun z => (Ev.c (e := eI) (v := 4))))))) (fun v1 => (DvF.seqN (DvN.pure (fun z => (StN.asg 4 (EvS.new (EvL.nil (e := (eP eI eI))))))) (fun v2 => (DvF.seqN (DvN.pure (fun z => (StN.for (fun (s3 : (List (Int × Int))) => [.w (.loc pn), .w (.d (eI a1)), .w (.d (eI v1.1)), .w (.d (eI v1.2)), .m (.lst (List.map (eP eI eI) s3)), .j, .j, .j, .j]) v2 (It.r1 (Ev.var 2)) (Le.e (Le.e (Le.e (Le.e (Le.e (Le.j (Le.j (Le.j (Le.j Le.nil))))))))) (Tg.n 5) (fun s3 x4 => (StN.to (L := [.w (.loc pn), .w (.d (eI a1)), .w (.d (eI v1.1)), .w (.d (eI v1.2)), .m (.lst (List.map (eP eI eI) s3)), .w (.d (eI x4)), .j, .j, .j]) (StN.ext 4 (xs := s3) (Ev.comp (f := (eP eI eI)) (It.r1 (Ev.var 3)) (Tg.n 8) (fun x5 => Te.yes) (fun x5 => (Ev.pair (Ev.c1 tInt (Ev.var 5)) (Ev.c1 tInt (Ev.var 8)))))) (fun v6 => v6) (fun v6 => (Le.e (Le.e (Le.e (Le.e (Le.e (Le.j (Le.j (Le.j (Le.j Le.nil))))))))))))))) (fun v7 => (DvF.seqN (DvN.pure (fun z => (StN.frz 4 (ds := List.map (eP eI eI) v7)))) (fun v8 => (DvF.seqN (DvN.asg 6 (DvE.bin tAddL (DvE.comp (DvI.pure (fun z => (It.sl (Ev.var 4)))) (TgB.one 7) (fun x12 => (DvT.b (DvE.bin tGt (DvE.take 0 take_ok (DvE.pure (fun z => (Ev.c (e := eI) (v := 5))))) (DvE.pure (fun z => (Ev.c (e := eI) (v := 0))))))) (fun x12 => (DvE.pure (fun z => (Ev.var 7))))) (DvE.pure (fun z => (Ev.cutL (Ev.var 4) EvP.none (EvP.some (Ev.c (e := eI) (v := 1)))))))) (fun v13 => (DvF.ret (DvE.pure (fun z => (Ev.cutV (Ev.c1 tTupL (Ev.c1 tSetP (Ev.var 6))) EvP.none (EvP.some (Ev.var 1)))))))))))))))))
end K52

set_option Elab.async false
set_option linter.all false
set_option maxRecDepth 100000
set_option autoImplicit false
/-! law k52: who wins, in plain Lean. -/
namespace K52
open PySem PySem.Spec PyProof.Rows L2 DL
abbrev Sq := Int × Int
abbrev Bd := List Sq
abbrev Pr := Sq × Sq
def stepOf (w : Str) : Int × Int := if w = ("left" : Str) then (1, 0) else (0, 1)
def pairOf (w : Str) (x : Sq) : Pr := (x, (x.1 + (stepOf w).1, x.2 + (stepOf w).2))
def lays1 (sq : Bd) (w : Str) : List Pr := (sq.map (pairOf w)).filter fun p => decide (p.2 ∈ sq)
def without1 (sq : Bd) (p : Pr) : Bd := sq.filter fun s => !decide (s ∈ [p.1, p.2])
def oth (w : Str) : Str := if w = ("left" : Str) then "right" else "left"
def win : Nat → Bd → Str → Bool
  | 0, _, _ => false
  | n + 1, sq, w => (lays1 sq w).any fun p => !win n (without1 sq p) (oth w)
def W (sq : Bd) (w : Str) : Bool := win (sq.length + 1) sq w
theorem lays1_mem {sq : Bd} {w : Str} {p : Pr} (h : p ∈ lays1 sq w) : p.1 ∈ sq ∧ p.2 ∈ sq ∧ p = pairOf w p.1 := by
  unfold lays1 at h
  rw [List.mem_filter, List.mem_map] at h
  obtain ⟨⟨x, hx, rfl⟩, h2⟩ := h
  exact ⟨hx, of_decide_eq_true h2, rfl⟩
theorem lays1_of {sq : Bd} {w : Str} {x : Sq} (h : x ∈ sq) (h2 : (pairOf w x).2 ∈ sq) : pairOf w x ∈ lays1 sq w := by
  unfold lays1
  rw [List.mem_filter, List.mem_map]
  exact ⟨⟨x, h, rfl⟩, decide_eq_true h2⟩
theorem without1_mem {sq : Bd} {p : Pr} {s : Sq} : s ∈ without1 sq p ↔ s ∈ sq ∧ s ≠ p.1 ∧ s ≠ p.2 := by
  unfold without1
  rw [List.mem_filter]
  simp
theorem without1_sub (sq : Bd) (p : Pr) : (without1 sq p).Sublist sq := List.filter_sublist
theorem without1_lt {sq : Bd} {p : Pr} (h : p.1 ∈ sq) : (without1 sq p).length < sq.length := by
  unfold without1
  rw [List.length_filter_lt_length_iff_exists]
  exact ⟨p.1, h, by simp⟩
theorem win_stab : ∀ (n m : Nat) (sq : Bd) (w : Str), sq.length < n → sq.length < m → win n sq w = win m sq w
  | 0, _, _, _, h, _ => by omega
  | _ + 1, 0, _, _, _, h => by omega
  | n + 1, m + 1, sq, w, h1, h2 => by
    unfold win
    rw [Bool.eq_iff_iff, List.any_eq_true, List.any_eq_true]
    refine exists_congr fun p => and_congr_right fun hp => ?_
    have := without1_lt (lays1_mem hp).1
    rw [win_stab n m (without1 sq p) (oth w) (by omega) (by omega)]
theorem W_of {n : Nat} {sq : Bd} (w : Str) (h : sq.length < n) : win n sq w = W sq w := win_stab _ _ _ _ h (Nat.lt_succ_self _)
theorem W_eq (sq : Bd) (w : Str) : W sq w = (lays1 sq w).any fun p => !W (without1 sq p) (oth w) := by
  conv => lhs; unfold W win
  rw [Bool.eq_iff_iff, List.any_eq_true, List.any_eq_true]
  refine exists_congr fun p => and_congr_right fun hp => ?_
  have := without1_lt (lays1_mem hp).1
  rw [W_of (oth w) (by omega)]
/-! ### all lists that are sub-lists of a board -/
def subsL {α : Type} : List α → List (List α)
  | [] => [[]]
  | x :: xs => subsL xs ++ (subsL xs).map (x :: ·)
theorem subsL_len {α : Type} : ∀ xs : List α, (subsL xs).length = 2 ^ xs.length
  | [] => rfl
  | x :: xs => by
    simp only [subsL, List.length_append, List.length_map, subsL_len xs, List.length_cons, Nat.pow_succ]
    omega
theorem subsL_mem {α : Type} {ys xs : List α} (h : ys.Sublist xs) : ys ∈ subsL xs := by
  induction h with
  | slnil => simp [subsL]
  | cons a _ ih => exact List.mem_append.mpr (.inl ih)
  | cons_cons a _ ih => exact List.mem_append.mpr (.inr (List.mem_map.mpr ⟨_, ih, rfl⟩))
theorem nodup_sub {α : Type} [DecidableEq α] : ∀ {xs ys : List α}, xs.Nodup → (∀ x ∈ xs, x ∈ ys) → xs.length ≤ ys.length
  | [], _, _, _ => by simp
  | x :: xs, ys, h, hs => by
    have h1 := hs x List.mem_cons_self
    obtain ⟨h2, h3⟩ := List.nodup_cons.mp h
    have := nodup_sub (ys := ys.erase x) h3 fun z hz => (List.mem_erase_of_ne (by intro e; subst e; exact h2 hz)).mpr (hs z (List.mem_cons_of_mem _ hz))
    rw [List.length_erase_of_mem h1] at this
    have : 0 < ys.length := List.length_pos_of_mem h1
    simp only [List.length_cons]
    omega
/-! ### the table: what stands in it is right -/
abbrev Ky := Bd × Str
def isW (w : Str) : Prop := w = ("left" : Str) ∨ w = ("right" : Str)
theorem oth_isW (w : Str) : isW (oth w) := by
  unfold oth isW
  split <;> simp
def Kn (b : Bd) (t : Tab Ky Bool) : Prop := (t.map (·.1)).Nodup ∧ ∀ kv ∈ t, kv.1.1.Sublist b ∧ isW kv.1.2 ∧ kv.2 = W kv.1.1 kv.1.2
theorem Kn.nil (b : Bd) : Kn b [] := ⟨List.nodup_nil, fun _ h => by cases h⟩
theorem Kn.small {b : Bd} {t : Tab Ky Bool} (h : Kn b t) : t.length ≤ 2 * 2 ^ b.length := by
  have := nodup_sub (ys := (subsL b).map (fun x => (x, ("left" : Str))) ++ (subsL b).map fun x => (x, ("right" : Str))) h.1 fun k hk => by
    obtain ⟨kv, h1, rfl⟩ := List.mem_map.mp hk
    obtain ⟨h2, h3, _⟩ := h.2 kv h1
    rcases h3 with e | e
    · exact List.mem_append.mpr (.inl (List.mem_map.mpr ⟨kv.1.1, subsL_mem h2, by rw [← e]⟩))
    · exact List.mem_append.mpr (.inr (List.mem_map.mpr ⟨kv.1.1, subsL_mem h2, by rw [← e]⟩))
  simp only [List.length_map, List.length_append, subsL_len] at this
  omega
theorem valT_mem {κ α : Type} [DecidableEq κ] {t : Tab κ α} {k : κ} {a : α} (h : valT t k = some a) : (k, a) ∈ t := by
  unfold valT at h
  rw [Option.map_eq_some_iff] at h
  obtain ⟨kv, h1, h2⟩ := h
  have h3 := List.find?_some h1
  have h4 := List.mem_of_find?_eq_some h1
  have h3 := of_decide_eq_true h3
  rw [← h3, ← h2]
  exact h4
theorem valT_none {κ α : Type} [DecidableEq κ] {t : Tab κ α} {k : κ} (h : valT t k = none) : k ∉ t.map (·.1) := by
  unfold valT at h
  rw [Option.map_eq_none_iff, List.find?_eq_none] at h
  intro hm
  obtain ⟨kv, h1, h2⟩ := List.mem_map.mp hm
  have := h kv h1
  simp [h2] at this
theorem Kn.val {b : Bd} {t : Tab Ky Bool} (h : Kn b t) {sq : Bd} {w : Str} {v : Bool} (e : valT t (sq, w) = some v) : v = W sq w := (h.2 _ (valT_mem e)).2.2
theorem Kn.put {b : Bd} {t : Tab Ky Bool} (h : Kn b t) {sq : Bd} {w : Str} (hs : sq.Sublist b) (hw : isW w) : Kn b (putT t (sq, w) (W sq w)) ∧ valT (putT t (sq, w) (W sq w)) (sq, w) = some (W sq w) := by
  cases e : valT t (sq, w) with
  | none =>
    have hn := valT_none e
    have ep : putT t (sq, w) (W sq w) = t ++ [((sq, w), W sq w)] := by simp [putT, e]
    rw [ep]
    refine ⟨⟨?_, fun kv hkv => ?_⟩, ?_⟩
    · rw [List.map_append, List.nodup_append]
      refine ⟨h.1, by simp, ?_⟩
      intro a ha c hc
      simp at hc
      subst hc
      exact fun z => hn (z ▸ ha)
    · rcases List.mem_append.mp hkv with g | g
      · exact h.2 kv g
      · simp at g
        subst g
        exact ⟨hs, hw, rfl⟩
    · unfold valT at e ⊢
      rw [Option.map_eq_none_iff] at e
      rw [List.find?_append, e]
      simp
  | some v =>
    have hv := h.val e
    subst hv
    have ep : putT t (sq, w) (W sq w) = t := by
      simp only [putT, e, Option.isSome_some, if_true]
      conv => rhs; rw [← List.map_id t]
      apply List.map_congr_left
      intro kv hkv
      by_cases g : kv.1 = (sq, w)
      · rw [if_pos g]
        have := (h.2 kv hkv).2.2
        rw [g] at this
        obtain ⟨k, x⟩ := kv
        simp only at this g
        subst g
        rw [this]
        rfl
      · rw [if_neg g]
        rfl
    rw [ep]
    exact ⟨h, e⟩
end K52

set_option Elab.async false
set_option linter.all false
set_option maxRecDepth 100000
set_option autoImplicit false
/-! law k52: the two ways with a dict, by hand. -/
noncomputable section
namespace K52
open PySem PySem.Spec PyProof.Rows L2 DL
/-! ### keys -/
abbrev eBd : Enc Bd := eV (eP eI eI)
abbrev ePr : Enc Pr := eP (eP eI eI) (eP eI eI)
abbrev eKy : Enc Ky := eP eBd eS
def kSq (p : Sq) : NestedKey := .tup [.num p.1, .num p.2]
def kKy (k : Ky) : NestedKey := .tup [.tup (k.1.map kSq), .text k.2]
theorem nkeys_sq : ∀ b : Bd, nkeys (b.map (eP eI eI)) = some (b.map kSq)
  | [] => by simp [nkeys]
  | x :: b => by simp [nkeys, nkey, nkeys_sq b, kSq]
theorem dep_sq : ∀ b : Bd, NestedKey.depthAll (b.map kSq) ≤ 1
  | [] => by simp [NestedKey.depthAll]
  | x :: b => by
    have := dep_sq b
    simp only [List.map_cons, NestedKey.depthAll, kSq, NestedKey.depth]
    omega
theorem kKy_key : NK eKy kKy := ⟨fun k => by
  have h := dep_sq k.1
  have hd : (kKy k).depth ≤ 8 := by
    simp only [kKy, NestedKey.depth, NestedKey.depthAll]
    omega
  have e : nkeys [eBd k.1, eS k.2] = some [.tup (k.1.map kSq), .text k.2] := by
    simp [nkeys, nkey, nkeys_sq]
  show (nkeys [eBd k.1, eS k.2]).bind _ = _
  rw [e]
  exact if_pos (decide_eq_true hd), fun a b h => by
  obtain ⟨a1, a2⟩ := a
  obtain ⟨b1, b2⟩ := b
  simp only [kKy, NestedKey.tup.injEq, List.cons.injEq, NestedKey.text.injEq, and_true] at h
  obtain ⟨h1, h2⟩ := h
  have : a1 = b1 := by
    refine (List.map_inj_right fun x y e => ?_).mp h1
    simp only [kSq, NestedKey.tup.injEq, List.cons.injEq, NestedKey.num.injEq, and_true] at e
    exact Prod.ext e.1 e.2
  rw [this, h2]⟩
def oN (t : Tab Ky Bool) : O := .dN (t.map (eNV eKy eB))
theorem look_N {S : Sto} {m : Nat} {t : Tab Ky Bool} (h : S[m]? = some (oN t)) (k : Ky) : lookN S (.loc m) (.d (eKy k)) = some ((valT t k).map eB) := by
  show (match S[m]? with | some (.dN kvs) => (tkey (eKy k)).map fun k => valN kvs k | _ => none) = _
  rw [h]
  show (tkey (eKy k)).map _ = _
  rw [kKy_key.key, Option.map_some, valN_map kKy_key]
theorem set_N {S : Sto} {m : Nat} {t : Tab Ky Bool} (h : S[m]? = some (oN t)) (k : Ky) (v : Bool) (hf : t.length + 1 ≤ 16777216) : vNSet S (.loc m) (.d (eKy k)) (.d (eB v)) = some (S.set m (oN (putT t k v))) := by
  show (match S[m]? with | some (.dN kvs) => (tkey (eKy k)).bind fun q => if fits (kvs.length + 1) = true then some (S.set m (.dN (putN kvs (eKy k) q (eB v)))) else none | _ => none) = _
  rw [h]
  show (tkey (eKy k)).bind _ = _
  rw [kKy_key.key, Option.bind_some, if_pos (by rw [List.length_map]; exact decide_eq_true hf), putN_map kKy_key]
  rfl
@[simp] theorem trimOk_N (S : Sto) (n : Nat) (t : Tab Ky Bool) : trimOk S (S.set n (oN t)) = true := trimOk_set (List.take_of_length_le (by simp)) rfl
/-! ### what the defs come to -/
theorem P_lays_eq {sq : Bd} (w : Str) (h : sq.length ≤ 16777216) : P_lays_of sq w = some (lays1 sq w) := by
  have h1 : (pIf (pB2 (fun a b => some (decide (a = b))) (some w) (some ("left" : Str))) (pB2 (fun a b => some (a, b)) (some (1 : Int)) (some (0 : Int))) (pB2 (fun a b => some (a, b)) (some (0 : Int)) (some (1 : Int)))) = some (stepOf w) := by
    unfold stepOf
    by_cases hw : w = ("left" : Str) <;> simp [pIf, pB2, hw]
  unfold P_lays_of
  rw [h1]
  simp only [Option.bind_some, pFit_of h]
  have h2 : ∀ (x : Int × Int), (pB2 (fun a b => some (a, b)) (pB2 (fun a b => some (a, b)) (some x.1) (some x.2)) (pB2 (fun a b => some (a, b)) (pB2 (fun a b => some (a + b)) (some x.1) (some (stepOf w).1)) (pB2 (fun a b => some (a + b)) (some x.2) (some (stepOf w).2)))) = some (pairOf w x) := fun x => by
    simp [pB2, pairOf]
  rw [pComp_map (f := pairOf w) (fun x _ => h2 x)]
  simp only [Option.bind_some, pFit_of (show (sq.map (pairOf w)).length ≤ 16777216 by simpa using h)]
  rw [pComp_filter (p := fun p => decide (p.2 ∈ sq)) (f := fun x => x) (fun x _ => by simp [pB2]) (fun x _ _ => rfl)]
  simp [pB1, lays1]
theorem law_lays_go {sq : Bd} {w : Str} {b : List Pr → Sq → Option (List Pr)} (hb : ∀ acc x, acc.length + 1 ≤ 16777216 → b acc x = some (acc ++ if (pairOf w x).2 ∈ sq then [pairOf w x] else [])) : ∀ (xs : Bd) (acc : List Pr), acc.length + xs.length ≤ 16777216 →
    pFor b xs acc = some (acc ++ (xs.map (pairOf w)).filter fun p => decide (p.2 ∈ sq))
  | [], acc, _ => by simp [pFor]
  | x :: xs, acc, h => by
    simp only [List.length_cons] at h
    simp only [pFor, hb acc x (by omega), Option.bind_some]
    rw [law_lays_go hb xs _ (by
      rw [List.length_append]
      split <;> simp <;> omega)]
    by_cases hx : (pairOf w x).2 ∈ sq <;> simp [hx]
theorem P_law_lays_eq {sq : Bd} (w : Str) (h : sq.length ≤ 1000) : P_law_lays sq w = some (isS leQ (lays1 sq w)) := by
  unfold P_law_lays
  have h0 : pB1 pFit (some ([] : List ((Int × Int) × (Int × Int)))) = some [] := rfl
  rw [h0]
  simp only [Option.bind_some]
  rw [law_lays_go (sq := sq) (w := w) (fun acc x hl => by
    have h1 : (pIf (pB2 (fun a b => some (decide (a = b))) (some w) (some ("left" : Str))) (pB2 (fun a b => some (a, b)) (pB2 (fun a b => some (a + b)) (some x.1) (some (1 : Int))) (some x.2)) (pB2 (fun a b => some (a, b)) (some x.1) (pB2 (fun a b => some (a + b)) (some x.2) (some (1 : Int))))) = some (pairOf w x).2 := by
      unfold pairOf stepOf
      by_cases hw : w = ("left" : Str) <;> simp [pIf, pB2, hw]
    rw [h1]
    simp only [Option.bind_some, Option.map_id']
    by_cases hx : (pairOf w x).2 ∈ sq
    · have h2 : pB1 pFit (pB2 (fun x xs => some (x :: xs)) (pB2 (fun a b => some (a, b)) (pB2 (fun a b => some (a, b)) (some x.1) (some x.2)) (some (pairOf w x).2)) (some ([] : List ((Int × Int) × (Int × Int))))) = some [pairOf w x] := rfl
      have h3 : pFit (acc ++ [pairOf w x]) = some (acc ++ [pairOf w x]) := pFit_of (by simpa using hl)
      rw [h2]
      simp [pIf, pB2, hx, h3]
    · have h3 : pFit acc = some acc := pFit_of (by omega)
      simp [pIf, pB2, hx, h3]) sq [] (by simp; omega)]
  simp [pB1, pSortQ, lays1]
theorem P_without_eq {sq : Bd} (p : Pr) (h : sq.length ≤ 16777216) : P_without sq p = some (without1 sq p) := by
  unfold P_without
  simp only [Option.bind_some, pFit_of h]
  rw [pComp_filter (p := fun s => !decide (s ∈ [p.1, p.2])) (f := fun x => x) (fun x _ => by simp [pB2]) (fun x _ _ => rfl)]
  simp [pB1, without1]
theorem P_law_left_eq {sq : Bd} (p : Pr) (h : sq.length ≤ 16777216) : P_law_left sq p = some (without1 sq p) := P_without_eq p h
theorem P_law_other_eq (w : Str) : P_law_other w = some (oth w) := by
  unfold P_law_other oth
  by_cases h : w = ("left" : Str) <;> simp [pIf, pB2, h]
theorem lays1_len (sq : Bd) (w : Str) : (lays1 sq w).length ≤ sq.length := by
  unfold lays1
  exact Nat.le_trans (List.length_filter_le _ _) (by simp)
/-! ### the law's own way -/
theorem law_wins_ok (b : Bd) (hb : b.length ≤ 20) : ∀ (fuel : Nat) (sq : Bd) (w : Str) (n : Nat) (S : Sto) (t : Tab Ky Bool), S[n]? = some (oN t) → Kn b t → sq.Sublist b → isW w → sq.length < fuel →
    ∃ t', F_law_wins fuel [.d (eBd sq), .d (eS w), .loc n] S = some (.d (eB (W sq w)), S.set n (oN t')) ∧ Kn b t' := by
  intro fuel
  induction fuel with
  | zero => intro sq w n S t _ _ _ _ h; omega
  | succ fuel ih =>
    intro sq w n S t hn hk hs hw hf
    have hlen := hs.length_le
    have hlt : n < S.length := (List.getElem?_eq_some_iff.mp hn).1
    have hset : ∀ o : O, (S.set n o)[n]? = some o := fun o => by simp [hlt]
    have hf2 : fits 2 = true := rfl
    show ∃ t', fnD 7 (b_law_wins (F_law_wins fuel)) [.d (eBd sq), .d (eS w), .loc n] S = _ ∧ _
    have hl := look_N hn (sq, w)
    cases e : valT t (sq, w) with
    | some v =>
      rw [e] at hl
      have hv := hk.val e
      subst hv
      refine ⟨t, ?_, hk⟩
      rw [set_same hn]
      have hl' : lookN S (.loc n) (.d (.tuple [eBd sq, eS w])) = some (some (.bool (W sq w))) := hl
      generalize eBd sq = dq at hl' ⊢
      generalize eS w = dw at hl' ⊢
      simp [fnD, b_law_wins, s_law_wins_0, s_law_wins_3, hf2, vNNotIn, vNGet, hl']
    | none =>
      rw [e] at hl
      have hl' : lookN S (.loc n) (.d (.tuple [eBd sq, eS w])) = some none := hl
      obtain ⟨ps, hps⟩ : ∃ ps, ps = isS leQ (lays1 sq w) := ⟨_, rfl⟩
      have hpm : ∀ p ∈ ps, p ∈ lays1 sq w := fun p hp => (isS_perm leQ _).mem_iff.mp (hps ▸ hp)
      have hpl : ps.length ≤ 20 := by
        have h1 := (isS_perm leQ (lays1 sq w)).length_eq
        have h2 := lays1_len sq w
        rw [hps]
        omega
      have hany : (ps.any fun p => !W (without1 sq p) (oth w)) = W sq w := by
        rw [W_eq, hps]
        exact (isS_perm leQ _).any_eq
      have h1 : F_law_lays [.d (eBd sq), .d (eS w)] S = some (.d (eL ePr ps), S) := T_law_lays S sq w _ (by rw [P_law_lays_eq w (by omega), hps])
      have q1 : ∀ a b c d e f : Option DL.W, compM (gN 5) mYes (mCallF 2 F_law_left (mCons (mVar 0) (mCons (mVar 5) mNil))) (ps.map ePr) [some (.d (eBd sq)), a, b, c, d, none, e] S [] = some (ps.map fun p => eBd (without1 sq p), S) := fun a b c d e f =>
        compM_mapE0 _ _ _ (by omega) fun p hp => ⟨_, rfl, by
          have := T_law_left S sq p _ (P_law_left_eq p (by omega))
          simp [this]⟩
      obtain ⟨S', q2, t', rfl, q4⟩ := compM_mapE (g := gN 6) (m := mNot (mCallF 3 (F_law_wins fuel) (mCons (mVar 6) (mCons (mCallF 1 F_law_other (mCons (mVar 1) (mNil))) (mCons (mVar 2) (mNil))))))
        (σ := [some (.d (eBd sq)), some (.d (eS w)), some (.loc n), some (.d (.tuple [eBd sq, eS w])), some (.d (.list (ps.map fun p => eBd (without1 sq p)))), none, none])
        (fun T => ∃ t', T = S.set n (oN t') ∧ Kn b t') (fun p => eBd (without1 sq p)) (fun p => .bool (!W (without1 sq p) (oth w))) ps S [] ⟨t, (set_same hn).symm, hk⟩ (by simp; omega) (by
          rintro p T hp ⟨t1, rfl, hk1⟩
          have hlt2 := without1_lt (lays1_mem (hpm p hp)).1
          obtain ⟨t2, w1, w2⟩ := ih (without1 sq p) (oth w) n (S.set n (oN t1)) t1 (hset _) hk1 ((without1_sub sq p).trans hs) (oth_isW w) (by omega)
          have ho := T_law_other (S.set n (oN t1)) w _ (P_law_other_eq w)
          refine ⟨_, S.set n (oN t2), rfl, ?_, t2, rfl, w2⟩
          simp only [List.set_set] at w1
          simp only [mVar, mNot, mCallF, mCons, mNil, mC, gN, List.set_cons_succ, List.set_cons_zero, List.getElem?_cons_succ, List.getElem?_cons_zero, Option.bind_some, Option.map_some, id, asB, List.length_cons, List.length_nil, Nat.reduceAdd, decide_true, if_true, ho, w1])
      have hput := q4.put hs hw
      have hsm := q4.small
      have h20 : 2 ^ b.length ≤ 2 ^ 20 := Nat.pow_le_pow_right (by decide) hb
      have hset2 := set_N (hset (oN t')) (sq, w) (W sq w) (by omega)
      have hlook2 := look_N (hset (oN (putT t' (sq, w) (W sq w)))) (sq, w)
      rw [hput.2] at hlook2
      rw [List.set_set] at hset2
      refine ⟨_, ?_, hput.1⟩
      have hvany := any_map ps (fun p => !W (without1 sq p) (oth w)) (S.set n (oN t'))
      rw [hany] at hvany
      have hP : eL ePr ps = .list (ps.map ePr) := rfl
      have hto := trimOk_N S n (putT t' (sq, w) (W sq w))
      rw [hP] at h1
      have hkey : eKy (sq, w) = .tuple [eBd sq, eS w] := rfl
      have hB : ∀ v, eB v = .bool v := fun _ => rfl
      rw [hkey] at hset2 hlook2
      rw [hB] at hset2 ⊢
      generalize ps.map (fun p => eBd (without1 sq p)) = A at q1 q2
      generalize ps.map (fun p => PyData.bool (!W (without1 sq p) (oth w))) = B at q2 hvany
      generalize oN (putT t' (sq, w) (W sq w)) = o2 at hset2 hlook2 hto ⊢
      have hA : asS (DL.W.d (.list A)) = some A := rfl
      simp only [List.nil_append] at q2
      clear hany hput hsm h20 hpm ih
      clear hP
      generalize ps.map ePr = dps at h1 q1
      generalize eBd sq = dq at *
      generalize eS w = dw at *
      have z1 : s_law_wins_1 (F_law_wins fuel) [some (.d dq), some (.d dw), some (.loc n), some (.d (.tuple [dq, dw])), none, none, none] S = some (.nx [some (.d dq), some (.d dw), some (.loc n), some (.d (.tuple [dq, dw])), some (.d (.list A)), none, none] S) := by
        have q1' := q1 (some (.d dw)) (some (.loc n)) (some (.d (.tuple [dq, dw]))) none none none
        clear q1
        simp [s_law_wins_1, h1, q1']
      have z2 : s_law_wins_2 (F_law_wins fuel) [some (.d dq), some (.d dw), some (.loc n), some (.d (.tuple [dq, dw])), some (.d (.list A)), none, none] S = some (.nx [some (.d dq), some (.d dw), some (.loc n), some (.d (.tuple [dq, dw])), some (.d (.list A)), none, none] (S.set n o2)) := by
        simp [s_law_wins_2, hA, q2, hvany, hset2]
      simp [fnD, b_law_wins, s_law_wins_0, s_law_wins_3, z1, z2, hf2, vNNotIn, vNGet, hl', hlook2, hto]
/-! ### the program's own -/
def insS (m : Nat) : O := .ins "Seen" [("own_wins", .loc m)]
theorem fld_S {S : Sto} {p m : Nat} (h : S[p]? = some (insS m)) : fldOf S "Seen" "own_wins" (.loc p) = some (.loc m) := by
  have e : (("own_wins" : Str) == "own_wins") = true := by decide
  simp [fldOf, h, insS, List.lookup, e, FV.w]
theorem isIns_S {S : Sto} {p m : Nat} (h : S[p]? = some (insS m)) : isIns "Seen" "wins" S (.loc p) = true := by
  have e : (("wins" : Str) == "own_wins") = false := by decide
  simp [isIns, h, insS, List.lookup, e]
theorem seen_ok (b : Bd) (hb : b.length ≤ 20) : ∀ (fuel : Nat) (sq : Bd) (w : Str) (p m : Nat) (S : Sto) (t : Tab Ky Bool), S[p]? = some (insS m) → S[m]? = some (oN t) → Kn b t → sq.Sublist b → isW w → sq.length < fuel →
    ∃ t', F_Seen_wins fuel [.loc p, .d (eBd sq), .d (eS w)] S = some (.d (eB (W sq w)), S.set m (oN t')) ∧ Kn b t' := by
  intro fuel
  induction fuel with
  | zero => intro sq w p m S t _ _ _ _ _ h; omega
  | succ fuel ih =>
    intro sq w p m S t hp hn hk hs hw hf
    have hlen := hs.length_le
    have hlt : m < S.length := (List.getElem?_eq_some_iff.mp hn).1
    have hpm : m ≠ p := fun e => by subst e; rw [hp] at hn; cases hn
    have hset : ∀ o : O, (S.set m o)[m]? = some o := fun o => by simp [hlt]
    have hsp : ∀ o : O, (S.set m o)[p]? = some (insS m) := fun o => by rw [List.getElem?_set_ne hpm]; exact hp
    have hf2 : fits 2 = true := rfl
    have hfl := fld_S hp
    show ∃ t', fnD 8 (b_Seen_wins (F_Seen_wins fuel)) [.loc p, .d (eBd sq), .d (eS w)] S = _ ∧ _
    have hl := look_N hn (sq, w)
    cases e : valT t (sq, w) with
    | some v =>
      rw [e] at hl
      have hv := hk.val e
      subst hv
      refine ⟨t, ?_, hk⟩
      rw [set_same hn]
      have hl' : lookN S (.loc m) (.d (.tuple [eBd sq, eS w])) = some (some (.bool (W sq w))) := hl
      generalize eBd sq = dq at hl' ⊢
      generalize eS w = dw at hl' ⊢
      simp [fnD, b_Seen_wins, s_Seen_wins_0, s_Seen_wins_4, s_Seen_wins_5, hf2, vNNotIn, vNGet, hfl, hl']
    | none =>
      rw [e] at hl
      have hl' : lookN S (.loc m) (.d (.tuple [eBd sq, eS w])) = some none := hl
      obtain ⟨ps, hps⟩ : ∃ ps, ps = lays1 sq w := ⟨_, rfl⟩
      have hpl : ps.length ≤ 20 := by
        have h2 := lays1_len sq w
        rw [hps]
        omega
      have hany : (ps.any fun p => !W (without1 sq p) (oth w)) = W sq w := by
        rw [W_eq, hps]
      have h1 : F_lays_of [.d (eBd sq), .d (eS w)] S = some (.d (eV ePr ps), S) := T_lays_of S sq w _ (by rw [P_lays_eq w (by omega), hps])
      have q1 : ∀ a b c d e f : Option DL.W, compM (gN 6) mYes (mCallF 2 F_without (mCons (mVar 1) (mCons (mVar 6) mNil))) (ps.map ePr) [a, some (.d (eBd sq)), b, c, d, e, none, f] S [] = some (ps.map fun p => eBd (without1 sq p), S) := fun a b c d e f =>
        compM_mapE0 _ _ _ (by omega) fun p hp => ⟨_, rfl, by
          have := T_without S sq p _ (P_without_eq p (by omega))
          simp [this]⟩
      obtain ⟨S', q2, t', rfl, q4⟩ := compM_mapE (g := gN 7) (m := mNot (mMethI "Seen" "wins" 3 (F_Seen_wins fuel) (mVar 0) (mCons (mVar 7) (mCons (mVar 4) (mNil)))))
        (σ := [some (.loc p), some (.d (eBd sq)), some (.d (eS w)), some (.d (.tuple [eBd sq, eS w])), some (.d (eS (oth w))), some (.d (.list (ps.map fun p => eBd (without1 sq p)))), none, none])
        (fun T => ∃ t', T = S.set m (oN t') ∧ Kn b t') (fun p => eBd (without1 sq p)) (fun p => .bool (!W (without1 sq p) (oth w))) ps S [] ⟨t, (set_same hn).symm, hk⟩ (by simp; omega) (by
          rintro x T hx ⟨t1, rfl, hk1⟩
          have hlt2 := without1_lt (lays1_mem (hps ▸ hx)).1
          obtain ⟨t2, w1, w2⟩ := ih (without1 sq x) (oth w) p m (S.set m (oN t1)) t1 (hsp _) (hset _) hk1 ((without1_sub sq x).trans hs) (oth_isW w) (by omega)
          refine ⟨_, S.set m (oN t2), rfl, ?_, t2, rfl, w2⟩
          have hi := isIns_S (hsp (oN t1))
          simp only [List.set_set] at w1
          simp only [mVar, mNot, mMethI, mCons, mNil, mC, gN, List.set_cons_succ, List.set_cons_zero, List.getElem?_cons_succ, List.getElem?_cons_zero, Option.bind_some, Option.map_some, id, asB, List.length_cons, List.length_nil, Nat.reduceAdd, decide_true, if_true, hi, w1])
      have hput := q4.put hs hw
      have hsm := q4.small
      have h20 : 2 ^ b.length ≤ 2 ^ 20 := Nat.pow_le_pow_right (by decide) hb
      have hset2 := set_N (hset (oN t')) (sq, w) (W sq w) (by omega)
      have hlook2 := look_N (hset (oN (putT t' (sq, w) (W sq w)))) (sq, w)
      rw [hput.2] at hlook2
      rw [List.set_set] at hset2
      refine ⟨_, ?_, hput.1⟩
      have hvany := any_map ps (fun p => !W (without1 sq p) (oth w)) (S.set m (oN t'))
      rw [hany] at hvany
      have hP : eV ePr ps = .tuple (ps.map ePr) := rfl
      have hto := trimOk_N S m (putT t' (sq, w) (W sq w))
      rw [hP] at h1
      have hkey : eKy (sq, w) = .tuple [eBd sq, eS w] := rfl
      have hB : ∀ v, eB v = .bool v := fun _ => rfl
      have hf3 := fld_S (hsp (oN t'))
      have hf4 := fld_S (hsp (oN (putT t' (sq, w) (W sq w))))
      rw [hkey] at hset2 hlook2
      rw [hB] at hset2 ⊢
      have z0 : s_Seen_wins_1 (F_Seen_wins fuel) [some (.loc p), some (.d (eBd sq)), some (.d (eS w)), some (.d (.tuple [eBd sq, eS w])), none, none, none, none] S = some (.nx [some (.loc p), some (.d (eBd sq)), some (.d (eS w)), some (.d (.tuple [eBd sq, eS w])), some (.d (eS (oth w))), none, none, none] S) := by
        have he := tEqS S w ("left" : Str) _ rfl
        unfold oth
        by_cases hw0 : w = ("left" : Str)
        · subst hw0
          simp [s_Seen_wins_1, he]
        · simp [s_Seen_wins_1, hw0, he]
      generalize ps.map (fun p => eBd (without1 sq p)) = A at q1 q2
      generalize ps.map (fun p => PyData.bool (!W (without1 sq p) (oth w))) = B at q2 hvany
      generalize oN (putT t' (sq, w) (W sq w)) = o2 at hset2 hlook2 hto hf4 ⊢
      have hA : asS (DL.W.d (.list A)) = some A := rfl
      simp only [List.nil_append] at q2
      clear hany hput hsm h20 ih
      clear hP
      generalize ps.map ePr = dps at h1 q1
      generalize eBd sq = dq at *
      generalize eS (oth w) = dox at *
      generalize eS w = dw at *
      have z1 : s_Seen_wins_2 (F_Seen_wins fuel) [some (.loc p), some (.d dq), some (.d dw), some (.d (.tuple [dq, dw])), some (.d dox), none, none, none] S = some (.nx [some (.loc p), some (.d dq), some (.d dw), some (.d (.tuple [dq, dw])), some (.d dox), some (.d (.list A)), none, none] S) := by
        have q1' := q1 (some (.loc p)) (some (.d dw)) (some (.d (.tuple [dq, dw]))) (some (.d dox)) none none
        clear q1
        simp [s_Seen_wins_2, h1, q1']
      have z2 : s_Seen_wins_3 (F_Seen_wins fuel) [some (.loc p), some (.d dq), some (.d dw), some (.d (.tuple [dq, dw])), some (.d dox), some (.d (.list A)), none, none] S = some (.nx [some (.loc p), some (.d dq), some (.d dw), some (.d (.tuple [dq, dw])), some (.d dox), some (.d (.list A)), none, none] (S.set m o2)) := by
        simp [s_Seen_wins_3, hA, q2, hvany, hset2, hf3]
      simp [fnD, b_Seen_wins, s_Seen_wins_0, s_Seen_wins_4, s_Seen_wins_5, z0, z1, z2, hf2, vNNotIn, vNGet, hfl, hf4, hl', hlook2, hto]
end K52

set_option Elab.async false
set_option linter.all false
set_option maxRecDepth 100000
set_option autoImplicit false
/-! law k52: board_winner and good_lays, by hand. -/
noncomputable section
namespace K52
open PySem PySem.Spec PyProof.Rows L2 DL
theorem compM_filterI {α : Type} {g : MG} {t : MT} {m : ME} {σ : DL.Env} (I : Sto → Prop) (e f : α → D) (p : α → Bool) : ∀ (xs : List α) (S : Sto) (acc : List D), I S → acc.length + xs.length ≤ 16777216 →
    (∀ x S, x ∈ xs → I S → ∃ σ1 S', g (.d (e x)) σ = some σ1 ∧ t σ1 S = some (p x, S') ∧ m σ1 S' = some (.d (f x), S') ∧ I S') →
    ∃ S', compM g t m (xs.map e) σ S acc = some (acc ++ (xs.filter p).map f, S') ∧ I S'
  | [], S, acc, h0, _, _ => ⟨S, by simp, h0⟩
  | d :: ds, S, acc, h0, hl, hs => by
    obtain ⟨σ1, S1, h1, h2, h2', h3⟩ := hs d S (by simp) h0
    simp only [List.length_cons] at hl
    have hf : fits (acc.length + 1) = true := decide_eq_true (by omega)
    cases hp : p d with
    | true =>
      obtain ⟨S', h4, h5⟩ := compM_filterI I e f p ds S1 (acc ++ [f d]) h3 (by simp; omega) fun d S hd hI => hs d S (by simp [hd]) hI
      refine ⟨S', ?_, h5⟩
      rw [hp] at h2
      simp [h1, h2, h2', hf, h4, hp]
    | false =>
      obtain ⟨S', h4, h5⟩ := compM_filterI I e f p ds S1 acc h3 (by omega) fun d S hd hI => hs d S (by simp [hd]) hI
      refine ⟨S', ?_, h5⟩
      rw [hp] at h2
      simp [h1, h2, h4, hp]
theorem init_ok (S : Sto) : F_Seen_init [.loc S.length] (S ++ [.ins "Seen" []]) = some (.d .none, S ++ [insS (S.length + 1), oN []]) := by
  have ht : trimOk (S ++ [.ins "Seen" []]) (S ++ [insS (S.length + 1), oN []]) = false := by
    cases h : trimOk (S ++ [.ins "Seen" []]) (S ++ [insS (S.length + 1), oN []]) with
    | false => rfl
    | true =>
      have h2 := says_of h S.length (insS (S.length + 1)) (by simp) (by simp)
      rcases h2 with h2 | h2
      · simp [insS] at h2
      · have := h2 (S.length + 1) (by simp [insS, O.refs, refsF, FV.refs])
        simp at this
  have h1 : setFld (S ++ [.ins "Seen" [], .dN []]) "Seen" "own_wins" (.loc (S.length + 1)) (.loc S.length) = some (S ++ [insS (S.length + 1), oN []]) := by
    simp [setFld, putFV, insS, oN]
  simp [F_Seen_init, fnD, b_Seen_init, asFV, h1]
  simp [trim, ht]
def wordOf (l r : Bool) : Str := if l = r then (if l = true then "first" else "second") else (if l = true then "left" else "right")
def P_board_winner (sq : Bd) : Option Str := (P_check_board sq).bind fun _ => if sq.length ≤ 12 then some (wordOf (W sq "left") (W sq "right")) else none
theorem T_board_winner : FnT1 F_board_winner eBd eS P_board_winner := fun S sq r hr => by
  obtain ⟨u, h1, hr⟩ := Option.bind_eq_some_iff.mp hr
  split at hr
  case isFalse => cases hr
  rename_i hl
  cases hr
  have hc : F_check_board [.d (eBd sq)] S = some (.d (eN u), S) := T_check_board S sq u h1
  have hi := init_ok S
  have e1 : (S ++ [insS (S.length + 1), oN []])[S.length]? = some (insS (S.length + 1)) := by simp
  have e2 : (S ++ [insS (S.length + 1), oN []])[S.length + 1]? = some (oN []) := by simp
  obtain ⟨T, hT⟩ : ∃ T, T = S ++ [insS (S.length + 1), oN []] := ⟨_, rfl⟩
  have hTl : T.length = S.length + 2 := by rw [hT]; simp
  have hTt : T.take S.length = S := by rw [hT]; simp
  rw [← hT] at hi e1 e2
  clear hT
  obtain ⟨m, hm⟩ : ∃ m, m = S.length + 1 := ⟨_, rfl⟩
  rw [← hm] at e1 e2
  have hne : m ≠ S.length := by omega
  obtain ⟨t1, w1, k1⟩ := seen_ok sq (by omega) 16 sq "left" S.length m T [] e1 e2 (Kn.nil _) (List.Sublist.refl _) (.inl rfl) (by omega)
  have hs1 : (T.set m (oN t1))[S.length]? = some (insS m) := by rw [List.getElem?_set_ne hne]; exact e1
  have hs2 : (T.set m (oN t1))[m]? = some (oN t1) := List.getElem?_set_self (by omega)
  obtain ⟨t2, w2, k2⟩ := seen_ok sq (by omega) 16 sq "right" S.length m (T.set m (oN t1)) t1 hs1 hs2 k1 (List.Sublist.refl _) (.inr rfl) (by omega)
  rw [List.set_set] at w2
  have i1 := isIns_S e1
  have i2 := isIns_S hs1
  have ht : (T.set m (oN t2)).take S.length = S := by rw [List.take_set_of_le (by omega), hTt]
  have hto := trimOk_take ht
  have hs0 : eS "left" = .str "left" := rfl
  have hs0' : eS "right" = .str "right" := rfl
  rw [hs0] at w1
  rw [hs0'] at w2
  generalize eBd sq = dq at *
  have hB : ∀ v, eB v = .bool v := fun _ => rfl
  have z0 : s_board_winner_0 [some (.d dq), none, none, none] S = some (.nx [some (.d dq), none, none, none] S) := by
    simp [s_board_winner_0, hc]
  have z1 : s_board_winner_1 [some (.d dq), none, none, none] S = some (.nx [some (.d dq), some (.loc S.length), none, none] T) := by
    simp [s_board_winner_1, hi]
  have z2 : s_board_winner_2 [some (.d dq), some (.loc S.length), none, none] T = some (.nx [some (.d dq), some (.loc S.length), some (.d (.bool (W sq "left"))), some (.d (.bool (W sq "right")))] (T.set m (oN t2))) := by
    simp [s_board_winner_2, i1, i2, w1, w2]
  have he : ∀ a b : Bool, vEq (T.set m (oN t2)) (.d (.bool a)) (.d (.bool b)) = some (.d (.bool (decide (a = b)))) := fun a b => (tEq EqE.bool (hn := by decide)) _ a b _ rfl
  show fnD 4 b_board_winner [.d dq] S = _
  generalize T.set m (oN t2) = T2 at *
  generalize W sq "left" = wl at *
  generalize W sq "right" = wr at *
  cases wl <;> cases wr <;> simp [fnD, b_board_winner, he, z0, z1, z2, s_board_winner_3, s_board_winner_4, wordOf, ht, hto]
def P_good_lays (sq : Bd) (w : Str) : Option (List Pr) := (P_check_board sq).bind fun _ => (P_check_side w).bind fun _ => if sq.length ≤ 12 then some ((lays1 sq w).filter fun p => !W (without1 sq p) (oth w)) else none
theorem T_good_lays : FnT2 F_good_lays eBd eS (eV ePr) P_good_lays := fun S sq w r hr => by
  obtain ⟨u, h1, hr⟩ := Option.bind_eq_some_iff.mp hr
  obtain ⟨u2, h2, hr⟩ := Option.bind_eq_some_iff.mp hr
  split at hr
  case isFalse => cases hr
  rename_i hl
  cases hr
  have hc : F_check_board [.d (eBd sq)] S = some (.d (eN u), S) := T_check_board S sq u h1
  have hc2 : F_check_side [.d (eS w)] S = some (.d (eN u2), S) := T_check_side S w u2 h2
  have hi := init_ok S
  have e1 : (S ++ [insS (S.length + 1), oN []])[S.length]? = some (insS (S.length + 1)) := by simp
  have e2 : (S ++ [insS (S.length + 1), oN []])[S.length + 1]? = some (oN []) := by simp
  obtain ⟨T, hT⟩ : ∃ T, T = S ++ [insS (S.length + 1), oN []] := ⟨_, rfl⟩
  have hTl : T.length = S.length + 2 := by rw [hT]; simp
  have hTt : T.take S.length = S := by rw [hT]; simp
  rw [← hT] at hi e1 e2
  clear hT
  obtain ⟨m, hm⟩ : ∃ m, m = S.length + 1 := ⟨_, rfl⟩
  rw [← hm] at e1 e2
  have hne : m ≠ S.length := by omega
  have hs1 : ∀ o, (T.set m o)[S.length]? = some (insS m) := fun o => by rw [List.getElem?_set_ne hne]; exact e1
  have hs2 : ∀ o, (T.set m o)[m]? = some o := fun o => List.getElem?_set_self (by omega)
  have hpl := lays1_len sq w
  have hL : F_lays_of [.d (eBd sq), .d (eS w)] T = some (.d (.tuple ((lays1 sq w).map ePr)), T) := T_lays_of T sq w _ (P_lays_eq w (by omega))
  obtain ⟨S', q2, t', rfl, q4⟩ := compM_filterI (g := gN 4) (t := mNotT (mB (mMethI "Seen" "wins" 3 (F_Seen_wins 16) (mVar 2) (mCons (mCallF 2 F_without (mCons (mVar 0) (mCons (mVar 4) (mNil)))) (mCons (mVar 3) (mNil)))))) (m := mVar 4)
    (σ := [some (.d (eBd sq)), some (.d (eS w)), some (.loc S.length), some (.d (eS (oth w))), none])
    (fun U => ∃ t', U = T.set m (oN t') ∧ Kn sq t') ePr ePr (fun p => !W (without1 sq p) (oth w)) (lays1 sq w) T [] ⟨[], (set_same e2).symm, Kn.nil _⟩ (by simp; omega) (by
      rintro x U hx ⟨t1, rfl, hk1⟩
      have hlt2 := without1_lt (lays1_mem hx).1
      obtain ⟨t2, w1, w2⟩ := seen_ok sq (by omega) 16 (without1 sq x) (oth w) S.length m (T.set m (oN t1)) t1 (hs1 _) (hs2 _) hk1 (without1_sub sq x) (oth_isW w) (by omega)
      have hw := T_without (T.set m (oN t1)) sq x _ (P_without_eq x (by omega))
      refine ⟨_, T.set m (oN t2), rfl, ?_, rfl, t2, rfl, w2⟩
      have hi := isIns_S (hs1 (oN t1))
      simp only [List.set_set] at w1
      simp only [mVar, mNotT, mB, mMethI, mCallF, mCons, mNil, mC, gN, List.set_cons_succ, List.set_cons_zero, List.getElem?_cons_succ, List.getElem?_cons_zero, Option.bind_some, Option.map_some, id, asB, List.length_cons, List.length_nil, Nat.reduceAdd, decide_true, if_true, hi, hw, w1])
  have ht : (T.set m (oN t')).take S.length = S := by rw [List.take_set_of_le (by omega), hTt]
  have hto := trimOk_take ht
  have hf : fits ((lays1 sq w).filter fun p => !W (without1 sq p) (oth w)).length = true := decide_eq_true (by
    have := List.length_filter_le (fun p => !W (without1 sq p) (oth w)) (lays1 sq w)
    omega)
  have hz : (mIf (mB (mBin vEq (mVar 1) (mC (.d (.str "left"))))) (mC (.d (.str "right"))) (mC (.d (.str "left")))) [some (.d (eBd sq)), some (.d (eS w)), none, none, none] T = some (.d (eS (oth w)), T) := by
    have he := tEqS T w ("left" : Str) _ rfl
    unfold oth
    by_cases hw0 : w = ("left" : Str)
    · subst hw0
      simp [he]
    · simp [hw0, he]
  simp only [List.nil_append] at q2
  generalize ((lays1 sq w).filter fun p => !W (without1 sq p) (oth w)) = out at *
  generalize (lays1 sq w).map ePr = dps at *
  generalize T.set m (oN t') = T2 at *
  generalize eS (oth w) = dox at *
  generalize eBd sq = dq at *
  generalize eS w = dw at *
  have z0 : s_good_lays_0 [some (.d dq), some (.d dw), none, none, none] S = some (.nx [some (.d dq), some (.d dw), none, none, none] S) := by
    simp [s_good_lays_0, hc]
  have z1 : s_good_lays_1 [some (.d dq), some (.d dw), none, none, none] S = some (.nx [some (.d dq), some (.d dw), none, none, none] S) := by
    simp [s_good_lays_1, hc2]
  have z2 : s_good_lays_2 [some (.d dq), some (.d dw), none, none, none] S = some (.nx [some (.d dq), some (.d dw), some (.loc S.length), some (.d dox), none] T) := by
    have hm2 : mMake "Seen" 1 F_Seen_init mNil [some (.d dq), some (.d dw), none, none, none] S = some (.loc S.length, T) := by simp [hi]
    simp only [s_good_lays_2, mPar2, mCons, hm2, hz, mNil, Option.bind_some, Option.map_some]
    rfl
  have z3 : s_good_lays_3 [some (.d dq), some (.d dw), some (.loc S.length), some (.d dox), none] T = some (.rt (.d (.tuple (out.map ePr))) T2) := by
    have hl2 : fits (out.map ePr).length = true := by rw [List.length_map]; exact hf
    simp only [s_good_lays_3, mRet, mCall, mCons, mComp, iT, mCallF, mVar, mNil]
    simp [hL, asT, q2, vTuple, pure1, hl2]
  show fnD 5 b_good_lays [.d dq, .d dw] S = some (.d (.tuple (out.map ePr)), S)
  simp [fnD, b_good_lays, z0, z1, z2, z3, ht, hto]
end K52

set_option Elab.async false
set_option linter.all false
set_option maxRecDepth 100000
set_option autoImplicit false
/-! law k52: the law's dict, handed on. -/
noncomputable section
namespace K52
open PySem PySem.Spec PyProof.Rows L2 DL
def grid : Bd := [(0, 0), (0, 1), (0, 2), (0, 3), (1, 0), (1, 1), (1, 2), (1, 3), (2, 0), (2, 1), (2, 2), (2, 3), (3, 0), (3, 1), (3, 2), (3, 3)]
def KnG : Bd → O → Prop := fun _ o => ∃ t, o = oN t ∧ Kn grid t
def PreG (sq : Bd) (w : Str) : Prop := sq.Sublist grid ∧ isW w ∧ sq.length ≤ 12
def KnW : Bd → O → Prop := fun _ o => ∃ t, o = oN t ∧ Kn grid t
def PreW (sq : Bd) : Prop := sq.Sublist grid ∧ sq.length ≤ 12
def Wd (sq : Bd) : Str := wordOf (W sq "left") (W sq "right")
theorem wins_memo : FnMR (F_law_wins 16) eBd eS eB KnG PreG W := fun S n o sq w hn ⟨t, ho, hk⟩ ⟨h1, h2, h3⟩ => by
  subst ho
  obtain ⟨t', h4, h5⟩ := law_wins_ok grid (by decide) 16 sq w n S t hn hk h1 h2 (by omega)
  exact ⟨oN t', h4, t', rfl, h5⟩
theorem word_memo : FnMR1 F_law_word eBd eS KnW PreW Wd := fun S n o sq hn ⟨t, ho, hk⟩ ⟨h1, h3⟩ => by
  subst ho
  obtain ⟨t1, w1, k1⟩ := law_wins_ok grid (by decide) 16 sq "left" n S t hn hk h1 (.inl rfl) (by omega)
  have hlt : n < S.length := (List.getElem?_eq_some_iff.mp hn).1
  obtain ⟨t2, w2, k2⟩ := law_wins_ok grid (by decide) 16 sq "right" n (S.set n (oN t1)) t1 (List.getElem?_set_self hlt) k1 h1 (.inr rfl) (by omega)
  rw [List.set_set] at w2
  refine ⟨oN t2, ?_, t2, rfl, k2⟩
  have hs0 : eS "left" = .str "left" := rfl
  have hs0' : eS "right" = .str "right" := rfl
  rw [hs0] at w1
  rw [hs0'] at w2
  have hto := trimOk_N S n t2
  have ht : (S.set n (oN t2)).take S.length = S.set n (oN t2) := List.take_of_length_le (by simp)
  generalize eBd sq = dq at *
  have hB : ∀ v, eB v = .bool v := fun _ => rfl
  have z2 : s_law_word_0 [some (.d dq), some (.loc n), none, none] S = some (.nx [some (.d dq), some (.loc n), some (.d (.bool (W sq "left"))), some (.d (.bool (W sq "right")))] (S.set n (oN t2))) := by
    simp [s_law_word_0, w1, w2]
  have he : ∀ a b : Bool, vEq (S.set n (oN t2)) (.d (.bool a)) (.d (.bool b)) = some (.d (.bool (decide (a = b)))) := fun a b => (tEq EqE.bool (hn := by decide)) _ a b _ rfl
  show fnD 4 b_law_word [.d dq, .loc n] S = some (.d (.str (wordOf (W sq "left") (W sq "right"))), S.set n (oN t2))
  generalize S.set n (oN t2) = T2 at *
  generalize W sq "left" = wl at *
  generalize W sq "right" = wr at *
  cases wl <;> cases wr <;> simp [fnD, b_law_word, he, z2, s_law_word_1, s_law_word_2, wordOf, ht, hto]
end K52

set_option Elab.async false
set_option linter.all false
set_option maxRecDepth 100000
set_option autoImplicit false
namespace K52
open PySem PySem.Spec PyProof.Rows L2 DL
def D_law_right  : Dm (Int × O) Bool := (dBind (dBind (dBind (dOpt (some (12 : Int))) fun a => dLift (D_law_board a)) fun a => fun s Q => Q a (s.1, O.dN [])) fun v1 => (dBind (dBind (dOpt (some v1)) fun a => dMemoR1 KnW PreW Wd a) fun v2 => (dIf (dIf (dOpt (pB2 (pRep eS false) (pB1 P_board_winner (some v1)) (some v2))) (dOpt (some true)) (dOpt (pB2 (fun a b => some (!decide (a = b))) (pB1 P_is_board (some v1)) (some true)))) (dOpt (some false)) (dSeqF (dBind (dOpt (pB1 pFit (pB2 (fun x xs => some (x :: xs)) (some ("left" : Str)) (pB2 (fun x xs => some (x :: xs)) (some ("right" : Str)) (some ([] : List Str)))))) fun xs => dForR (fun (s3 : Unit) (x4 : Str) => (dBind (dOpt (pB2 P_law_lays (some v1) (some x4))) fun v5 => (dIf (dOpt (pB2 (pRep (eV (eP (eP eI eI) (eP eI eI))) false) (pB2 P_lays (some v1) (some x4)) (pB1 (fun xs => some xs) (some v5)))) (dMap Sum.inr (dOpt (some false))) (dBind (dBind (dOpt (some v5)) fun xs => dBind (dOpt (pFit xs)) fun xs => dComp (fun (x8 : ((Int × Int) × (Int × Int))) => (dMap (fun c => !c) (dBind (dOpt (pB2 P_law_left (some v1) (some x8))) fun a => dBind (dOpt (pB1 P_law_other (some x4))) fun b => dMemoR KnG PreG W a b))) (fun (x8 : ((Int × Int) × (Int × Int))) => (dOpt (some x8))) xs) fun v9 => (dIf (dOpt (pB2 (pRep (eV (eP (eP eI eI) (eP eI eI))) false) (pB2 P_good_lays (some v1) (some x4)) (pB1 (fun xs => some xs) (some v9)))) (dMap Sum.inr (dOpt (some false))) (dMap Sum.inl (dMap (fun _ => ()) (dOpt (some ()))))))))) xs ()) (fun v10 => (dIf (dOpt (pB2 (pRep (eV (eV (eP eI eI))) false) (pB1 P_parts (some v1)) (pB1 P_law_parts (some v1)))) (dOpt (some false)) (dBind (dOpt (pB1 (fun xs => some xs) (pB1 pSortP ((some v1).bind fun xs => (pFit xs).bind fun xs => pComp (fun (x11 : (Int × Int)) => (some true)) (fun (x11 : (Int × Int)) => (pB2 (fun a b => some (a, b)) (some x11.2) (some x11.1))) xs)))) fun v12 => (dIf (dOpt (pB2 (fun a b => some (!decide (a = b))) (pB1 P_board_winner (some v12)) (pB3 pDictGet (pB1 pFit (pB2 (fun x xs => some (x :: xs)) (pB2 (fun a b => some (a, b)) (some ("left" : Str)) (some ("right" : Str))) (pB2 (fun x xs => some (x :: xs)) (pB2 (fun a b => some (a, b)) (some ("right" : Str)) (some ("left" : Str))) (some ([] : List (Str × Str)))))) (some v2) (some v2)))) (dOpt (some false)) (dBind (dOpt (pB1 (fun xs => some xs) (pB1 pSortP ((some v1).bind fun xs => (pFit xs).bind fun xs => pComp (fun (x13 : (Int × Int)) => (some true)) (fun (x13 : (Int × Int)) => (pB2 (fun a b => some (a, b)) (pB2 (fun a b => some (a - b)) (some (5 : Int)) (some x13.1)) (some x13.2))) xs)))) fun v14 => (dBind (dOpt (pB1 (fun xs => some xs) (pB1 pSortP ((some v1).bind fun xs => (pFit xs).bind fun xs => pComp (fun (x15 : (Int × Int)) => (some true)) (fun (x15 : (Int × Int)) => (pB2 (fun a b => some (a, b)) (pB2 (fun a b => some (a + b)) (some x15.1) (some (2 : Int))) (pB2 (fun a b => some (a + b)) (some x15.2) (some (1 : Int))))) xs)))) fun v16 => (dOpt (pAnd (pB2 (fun a b => some (decide (a = b))) (pB1 P_board_winner (some v14)) (some v2)) (pB2 (fun a b => some (decide (a = b))) (pB1 P_board_winner (some v16)) (some v2))))))))))))))
theorem T_law_right  : DrF WP F_law_right (fun pn => [.loc pn]) eB (D_law_right ) := fn_dr (st := Int × O) (Wd := WP) (er := eB) (b := b_law_right) (N := 13) (d := D_law_right ) (fun pn => [.loc pn]) (fun pn => (DvF.seqN (DvN.parN 1 2 (DvE.u1 0 (fun a => T_law_board a) (DvE.pure (fun z => (Ev.c (e := eI) (v := 12)))))) (fun v1 => (DvF.seqN (DvN.asg 3 (DvE.memoR1 2 word_memo (DvE.pure (fun z => (Ev.var 1))))) (fun v2 => (DvF.guard (DvT.or (DvT.b (DvE.pure (fun z => (Ev.rep (Ev.k1 T_board_winner (Ev.var 1)) (Ev.var 3))))) (DvT.b (DvE.pure (fun z => (Ev.bin tIsNB (Ev.k1 T_is_board (Ev.var 1)) (Ev.c (e := eB) (v := true))))))) (DvF.ret (DvE.pure (fun z => (Ev.c (e := eB) (v := false))))) (DvF.seqR (DvR.for (fun (s3 : Unit) (z : Int × O) => [.w (.loc pn), .w (.d ((eV (eP eI eI)) v1)), .m z.2, .w (.d (eS v2)), .j, .j, .j, .j, .j, .j, .j, .j, .j]) () (DvI.pure (fun z => (It.t (Ev.vtup (EvL.cons (Ev.c (e := eS) (v := "left")) (EvL.cons (Ev.c (e := eS) (v := "right")) (EvL.nil (e := eS)))))))) (fun _ => (Le.e (Le.e (Le.e (Le.e (Le.j (Le.j (Le.j (Le.j (Le.j (Le.j (Le.j (Le.j (Le.j Le.nil)))))))))))))) (Tg.n 4) (fun s3 x4 => (DvR.seqN (DvN.pure (fun z => (StN.asg 5 (Ev.s (Ev.f2 T_law_lays (Ev.var 1) (Ev.var 4)))))) (fun v5 => (DvR.guard (DvT.b (DvE.pure (fun z => (Ev.rep (Ev.k2 T_lays (Ev.var 1) (Ev.var 4)) (Ev.c1 tTupL (Ev.var 5)))))) (DvF.ret (DvE.pure (fun z => (Ev.c (e := eB) (v := false))))) (DvR.seqN (DvN.asg 6 (DvE.comp (DvI.pure (fun z => (It.sl (Ev.var 5)))) (TgB.one 10) (fun x8 => (DvT.not (DvT.b (DvE.memoR 2 wins_memo (DvE.pure (fun z => (Ev.f2 T_law_left (Ev.var 1) (Ev.var 10)))) (DvE.pure (fun z => (Ev.f1 T_law_other (Ev.var 4)))))))) (fun x8 => (DvE.pure (fun z => (Ev.var 10)))))) (fun v9 => (DvR.ite (DvT.b (DvE.pure (fun z => (Ev.rep (Ev.k2 T_good_lays (Ev.var 1) (Ev.var 4)) (Ev.c1 tTupL (Ev.var 6)))))) (DvR.ofF (DvF.ret (DvE.pure (fun z => (Ev.c (e := eB) (v := false)))))) (DvR.ofN (DvN.to (DvN.pure (fun _ => StN.skip)) (fun _ => ()) (fun _ _ => (Le.e (Le.e (Le.e (Le.e (Le.j (Le.j (Le.j (Le.j (Le.j (Le.j (Le.j (Le.j (Le.j Le.nil)))))))))))))))))))))))) (fun v10 => (DvF.guard (DvT.b (DvE.pure (fun z => (Ev.rep (Ev.k1 T_parts (Ev.var 1)) (Ev.f1 T_law_parts (Ev.var 1)))))) (DvF.ret (DvE.pure (fun z => (Ev.c (e := eB) (v := false))))) (DvF.seqN (DvN.pure (fun z => (StN.asg 7 (Ev.s (Ev.c1 tTupL (Ev.c1 tSortP (Ev.comp (f := (eP eI eI)) (It.st (Ev.var 1)) (Tg.p2 11 12) (fun x11 => Te.yes) (fun x11 => (Ev.pair (Ev.var 12) (Ev.var 11)))))))))) (fun v12 => (DvF.guard (DvT.b (DvE.pure (fun z => (Ev.bin tNeS (Ev.f1 T_board_winner (Ev.var 7)) (Ev.dictGet (Ev.lst (EvL.cons (Ev.pair (Ev.c (e := eS) (v := "left")) (Ev.c (e := eS) (v := "right"))) (EvL.cons (Ev.pair (Ev.c (e := eS) (v := "right")) (Ev.c (e := eS) (v := "left"))) (EvL.nil (e := (eP eS eS)))))) (Ev.var 3) (Ev.var 3)))))) (DvF.ret (DvE.pure (fun z => (Ev.c (e := eB) (v := false))))) (DvF.seqN (DvN.pure (fun z => (StN.asg 8 (Ev.s (Ev.c1 tTupL (Ev.c1 tSortP (Ev.comp (f := (eP eI eI)) (It.st (Ev.var 1)) (Tg.p2 11 12) (fun x13 => Te.yes) (fun x13 => (Ev.pair (Ev.bin tSub (Ev.c (e := eI) (v := 5)) (Ev.var 11)) (Ev.var 12)))))))))) (fun v14 => (DvF.seqN (DvN.pure (fun z => (StN.asg 9 (Ev.s (Ev.c1 tTupL (Ev.c1 tSortP (Ev.comp (f := (eP eI eI)) (It.st (Ev.var 1)) (Tg.p2 11 12) (fun x15 => Te.yes) (fun x15 => (Ev.pair (Ev.bin tAdd (Ev.var 11) (Ev.c (e := eI) (v := 2))) (Ev.bin tAdd (Ev.var 12) (Ev.c (e := eI) (v := 1)))))))))))) (fun v16 => (DvF.ret (DvE.pure (fun z => (Ev.and (Ev.bin tEqS (Ev.f1 T_board_winner (Ev.var 8)) (Ev.var 3)) (Ev.bin tEqS (Ev.f1 T_board_winner (Ev.var 9)) (Ev.var 3))))))))))))))))))))))
end K52

set_option Elab.async false
set_option linter.all false
set_option maxRecDepth 100000
set_option autoImplicit false
/-! law k52: boards, in plain Lean. -/
namespace K52
open PySem PySem.Spec PyProof.Rows L2 DL
abbrev ltP (p q : Int × Int) : Prop := p.1 < q.1 ∨ (p.1 = q.1 ∧ p.2 < q.2)
theorem ltP_tr {a b c : Int × Int} (h : ltP a b) (g : ltP b c) : ltP a c := by unfold ltP at *; omega
theorem ltP_ne {a b : Int × Int} (h : ltP a b) : a ≠ b := fun e => by subst e; unfold ltP at h; omega
theorem leP_lt {a b : Int × Int} (h : leP a b = true) (ne : a ≠ b) : ltP a b := by
  unfold leP at h
  rw [decide_eq_true_eq] at h
  unfold ltP
  rcases h with q | ⟨q1, q2⟩
  · exact .inl q
  · refine .inr ⟨q1, ?_⟩
    have : a.2 ≠ b.2 := fun e => ne (Prod.ext q1 e)
    omega
theorem insU_ok (x : Int × Int) : ∀ r : List (Int × Int), r.Pairwise ltP → (insU x r).Pairwise ltP ∧ ∀ y, y ∈ insU x r ↔ y = x ∨ y ∈ r
  | [], _ => by simp [insU]
  | y :: r, h => by
    obtain ⟨h1, h2⟩ := List.pairwise_cons.mp h
    unfold insU
    split
    · rename_i e
      subst e
      exact ⟨h, fun z => by simp⟩
    · rename_i ne
      split
      · rename_i q
        have hlt := leP_lt q ne
        refine ⟨List.pairwise_cons.mpr ⟨fun z hz => ?_, h⟩, fun z => by simp⟩
        rcases List.mem_cons.mp hz with rfl | hz
        · exact hlt
        · exact ltP_tr hlt (h1 z hz)
      · rename_i q
        have hlt : ltP y x := by
          unfold leP at q
          rw [decide_eq_true_eq] at q
          unfold ltP
          omega
        obtain ⟨i1, i2⟩ := insU_ok x r h2
        refine ⟨List.pairwise_cons.mpr ⟨fun z hz => ?_, i1⟩, fun z => ?_⟩
        · rcases (i2 z).mp hz with rfl | hz
          · exact hlt
          · exact h1 z hz
        · rw [List.mem_cons, i2, List.mem_cons]
          exact or_left_comm
theorem usP_ok : ∀ xs : List (Int × Int), (usP xs).Pairwise ltP ∧ ∀ y, y ∈ usP xs ↔ y ∈ xs
  | [] => by simp [usP]
  | x :: xs => by
    obtain ⟨h1, h2⟩ := usP_ok xs
    obtain ⟨i1, i2⟩ := insU_ok x (usP xs) h1
    exact ⟨i1, fun y => by
      show y ∈ insU x (usP xs) ↔ _
      rw [i2, h2, List.mem_cons]⟩
theorem isS_up {xs : List (Int × Int)} (h : xs.Nodup) : (isS leP xs).Pairwise ltP := by
  have hn2 : (isS leP xs).Nodup := (isS_perm leP _).nodup_iff.mpr h
  exact ((isS_sorted ordP xs).and (List.nodup_iff_pairwise_ne.mp hn2)).imp fun {a b} hab => leP_lt hab.1 hab.2
theorem up_nodup {xs : List (Int × Int)} (h : xs.Pairwise ltP) : xs.Nodup := List.nodup_iff_pairwise_ne.mpr (h.imp fun {a b} hab => ltP_ne hab)
/-- rising, and among those -/
theorem up_sub : ∀ {xs ys : List (Int × Int)}, xs.Pairwise ltP → ys.Pairwise ltP → (∀ x ∈ xs, x ∈ ys) → xs.Sublist ys
  | [], _, _, _, _ => List.nil_sublist _
  | x :: xs, [], _, _, h => by have := h x List.mem_cons_self; cases this
  | x :: xs, y :: ys, hx, hy, h => by
    obtain ⟨hx1, hx2⟩ := List.pairwise_cons.mp hx
    obtain ⟨hy1, hy2⟩ := List.pairwise_cons.mp hy
    by_cases e : x = y
    · subst e
      refine (up_sub hx2 hy2 fun z hz => ?_).cons_cons x
      rcases List.mem_cons.mp (h z (List.mem_cons_of_mem _ hz)) with rfl | q
      · exact absurd rfl (ltP_ne (hx1 _ hz))
      · exact q
    · refine (up_sub hx hy2 fun z hz => ?_).cons y
      rcases List.mem_cons.mp (h z hz) with rfl | q
      · rcases List.mem_cons.mp hz with rfl | hz2
        · exact absurd rfl e
        · have h1 := hx1 _ hz2
          rcases List.mem_cons.mp (h x List.mem_cons_self) with q | q
          · exact absurd q e
          · have h2 := hy1 _ q
            unfold ltP at h1 h2
            omega
      · exact q
theorem up_ext {xs ys : List (Int × Int)} (hx : xs.Pairwise ltP) (hy : ys.Pairwise ltP) (h : ∀ x, x ∈ xs ↔ x ∈ ys) : xs = ys :=
  (up_sub hx hy fun x q => (h x).mp q).eq_of_length_le (up_sub hy hx fun x q => (h x).mpr q).length_le
/-! ### what is a board -/
theorem zip_ok : ∀ ys : List (Int × Int), ys.Pairwise ltP → ∀ z ∈ ys.zip (ys.drop 1), ltP z.1 z.2
  | [], _, z, hz => by simp at hz
  | [a], _, z, hz => by simp at hz
  | a :: b :: r, h, z, hz => by
    obtain ⟨h1, h2⟩ := List.pairwise_cons.mp h
    simp only [List.drop_succ_cons, List.drop_zero, List.zip_cons_cons, List.mem_cons] at hz
    rcases hz with rfl | hz
    · exact h1 b (by simp)
    · exact zip_ok (b :: r) h2 z (by simpa using hz)
theorem asc_ok {ys : List (Int × Int)} (hl : ys.length ≤ 1000) (h : ys.Pairwise ltP) : P_is_ascending ys = some true := by
  have hc : pCut ys (some 1) none = some (ys.drop 1) := by
    unfold pCut
    congr 1
    by_cases h0 : ys.length = 0
    · have : ys = [] := List.length_eq_zero_iff.mp h0
      subst this; rfl
    · have e : HT.sIx ys.length 0 (some 1) = 1 := by unfold HT.sIx; simp; omega
      have e2 : HT.sIx ys.length ys.length none = ys.length := by unfold HT.sIx; simp
      rw [e, e2]
      exact List.take_of_length_le (by simp)
  unfold P_is_ascending
  simp only [pB1, pB2, pB3, Option.bind_some, Option.map_some, hc]
  rw [pFit_of (by simp; omega)]
  simp only [Option.bind_some]
  rw [pComp_map (f := fun _ => true)]
  · simp
  · intro z hz
    have := zip_ok ys h z hz
    unfold pLtP
    simp only [ltP] at this
    simp [this]
structure Brd (b : Bd) : Prop where
  up : b.Pairwise ltP
  pos : 1 ≤ b.length
  len : b.length ≤ 12
  inn : ∀ s ∈ b, 0 ≤ s.1 ∧ s.1 ≤ 5 ∧ 0 ≤ s.2 ∧ s.2 ≤ 5
theorem square_ok {s : Sq} (h : 0 ≤ s.1 ∧ s.1 ≤ 5 ∧ 0 ≤ s.2 ∧ s.2 ≤ 5) : P_is_square s = some true := by
  obtain ⟨h1, h2, h3, h4⟩ := h
  simp [P_is_square, P_is_between, P_is_integer, pIf, pOr, pAnd, pNot, pB1, pB2, pB3, h1, h2, h3, h4]
theorem Brd.is {b : Bd} (h : Brd b) : P_is_board b = some true := by
  have h1 : pComp (fun (x1 : (Int × Int)) => (some true)) (fun (x1 : (Int × Int)) => P_is_square x1) b = some (b.map fun _ => true) := pComp_map fun x hx => square_ok (h.inn x hx)
  have h2 := asc_ok (by have := h.len; omega) h.up
  have h3 : pFit b = some b := pFit_of (by have := h.len; omega)
  have h4 : (1 : Int) ≤ (b.length : Int) := by have := h.pos; omega
  have h5 : (b.length : Int) ≤ 12 := by have := h.len; omega
  unfold P_is_board
  simp only [Option.bind_some, pB1, h1, h2, h3, pAnd, pIf, pOr, pNot, Option.map_some, h4, h5, decide_true, if_true, Bool.not_true, Bool.false_eq_true, if_false]
  simp
theorem Brd.check {b : Bd} (h : Brd b) : P_check_board b = some () := by
  simp [P_check_board, h.is, pIf, pNot, pB1]
theorem side_ok {w : Str} (h : isW w) : P_check_side w = some () := by
  rcases h with rfl | rfl <;> rfl
theorem Brd.winner {b : Bd} (h : Brd b) : P_board_winner b = some (Wd b) := by
  unfold P_board_winner
  rw [h.check, Option.bind_some, if_pos h.len]
  rfl
/-! ### the board that is drawn -/
structure BrdG (b : Bd) : Prop where
  sub : b.Sublist grid
  pos : 1 ≤ b.length
  len : b.length ≤ 12
theorem grid_up : grid.Pairwise ltP := by decide +kernel
theorem grid_in : ∀ s ∈ grid, 0 ≤ s.1 ∧ s.1 ≤ 3 ∧ 0 ≤ s.2 ∧ s.2 ≤ 3 := by decide +kernel
theorem BrdG.brd {b : Bd} (h : BrdG b) : Brd b := ⟨grid_up.sublist h.sub, h.pos, h.len, fun s hs => by
  have := grid_in s (h.sub.subset hs)
  omega⟩
abbrev pEvery (h w : Int) : Option Bd := (pB1 (pRange 0) (some h)).bind fun xs => pFor (fun (s3 : (List (Int × Int))) (x4 : Int) => (Option.map (fun v6 => v6) (((pB1 (pRange 0) (some w)).bind fun xs => (pFit xs).bind fun xs => pComp (fun (x5 : Int) => (some true)) (fun (x5 : Int) => (pB2 (fun a b => some (a, b)) (pB1 (fun a => some a) (some x4)) (pB1 (fun a => some a) (some x5)))) xs).bind fun a => pFit (s3 ++ a)))) xs []
def okE (h w : Int) : Bool := match pEvery h w with
  | some e => decide (1 ≤ e.length ∧ e.length ≤ 16 ∧ ∀ s ∈ e, s ∈ grid)
  | none => false
theorem allE : ∀ h, h ∈ [(1 : Int), 2, 3, 4] → ∀ w, w ∈ [(1 : Int), 2, 3, 4] → okE h w = true := by decide +kernel
theorem every_ok {h w : Int} (h1 : 1 ≤ h) (h2 : h ≤ 4) (w1 : 1 ≤ w) (w2 : w ≤ 4) : ∃ e, pEvery h w = some e ∧ 1 ≤ e.length ∧ e.length ≤ 16 ∧ ∀ s ∈ e, s ∈ grid := by
  have q := allE h (by simp; omega) w (by simp; omega)
  unfold okE at q
  cases e : pEvery h w with
  | none => rw [e] at q; cases q
  | some x =>
    rw [e] at q
    exact ⟨x, rfl, of_decide_eq_true q⟩
theorem cut_take (xs : Bd) (j : Nat) : pCut xs none (some (j : Int)) = some (xs.take j) := by
  unfold pCut
  have e1 : HT.sIx xs.length 0 none = 0 := by unfold HT.sIx; simp
  have e2 : HT.sIx xs.length xs.length (some (j : Int)) = min j xs.length := by unfold HT.sIx; simp; omega
  rw [e1, e2, List.drop_zero, Nat.sub_zero]
  congr 1
  rcases Nat.le_total j xs.length with h | h
  · rw [Nat.min_eq_left h]
  · rw [Nat.min_eq_right h, List.take_length, List.take_of_length_le h]
theorem board_drawn {k : Int} {Q : Bd → Int × Unit → Prop} (hk : k + 30 ≤ 1000000) (hQ : ∀ b k', BrdG b → k' ≤ k + 30 → Q b (k', ())) : D_law_board 12 (k, ()) Q := by
  unfold D_law_board
  dsimp only [dBind, dOpt]
  refine ⟨_, rfl, _, rfl, by decide, by decide, by dsimp only; omega, fun d1 a1 b1 => ⟨_, rfl, _, rfl, _, rfl, by decide, by decide, by dsimp only; omega, fun d2 a2 b2 => ⟨_, rfl, _, rfl, _, rfl, ?_⟩⟩⟩
  obtain ⟨e, h1, h2, h3, h4⟩ := every_ok (h := 1 + d1) (w := 1 + d2) (by omega) (by omega) (by omega) (by omega)
  refine ⟨e, h1, (), rfl, e, rfl, e, pFit_of (by omega), ?_⟩
  refine dComp_some (f := fun x => x) (xs := e) (k := k + 1 + 1) (by omega) (fun x _ k Q hk hq => ⟨5, rfl, by decide, by decide, hk, fun d _ _ => ⟨0, rfl, _, rfl, hq _⟩⟩) (fun x _ s Q hq => ⟨x, rfl, hq⟩) fun ys hys => ?_
  have hyl := hys.length_le
  rw [List.map_id']
  have c1 : pB3 pCut (some e) (some none) (Option.map some (some (1 : Int))) = some (e.take 1) := cut_take e 1
  have hl : (ys ++ e.take 1).length ≤ 17 := by
    rw [List.length_append, List.length_take]; omega
  have c2 : pApp ys (e.take 1) = some (ys ++ e.take 1) := pFit_of (by omega)
  have hin : ∀ s ∈ ys ++ e.take 1, s ∈ grid := fun s hs => by
    rcases List.mem_append.mp hs with q | q
    · exact h4 s (hys.subset q)
    · exact h4 s (List.mem_of_mem_take q)
  have c3 : pSetP (ys ++ e.take 1) = some (usP (ys ++ e.take 1)) := by
    unfold pSetP
    rw [if_pos]
    rw [Bool.and_eq_true, List.all_eq_true]
    refine ⟨by simp only [Nat.blt_eq]; omega, fun p hp => ?_⟩
    have := grid_in p (hin p hp)
    simp only [Bool.and_eq_true, decide_eq_true_eq]
    omega
  obtain ⟨u1, u2⟩ := usP_ok (ys ++ e.take 1)
  have c4 : pB3 pCut (pB1 (fun xs => some xs) (pB1 pSetP (some (ys ++ e.take 1)))) (some none) (Option.map some (some (12 : Int))) = some ((usP (ys ++ e.take 1)).take 12) := by
    simp only [pB1, Option.bind_some, c3, pB3, Option.map_some]
    exact cut_take _ 12
  refine ⟨_, c1, _, c2, _, c4, hQ _ _ ⟨?_, ?_, ?_⟩ ?_⟩
  · exact (List.take_sublist _ _).trans (up_sub u1 grid_up fun x hx => hin x ((u2 x).mp hx))
  · rw [List.length_take]
    have : 0 < (usP (ys ++ e.take 1)).length := by
      cases e with
      | nil => simp at h2
      | cons a r => exact List.length_pos_of_mem ((u2 a).mpr (by simp))
    omega
  · rw [List.length_take]; omega
  · omega
end K52

set_option Elab.async false
set_option linter.all false
set_option maxRecDepth 100000
set_option autoImplicit false
/-! law k52: a board turned, mirrored, moved. -/
namespace K52
open PySem PySem.Spec PyProof.Rows L2 DL
def adjS (w : Str) (a b : Sq) : Prop := b = (pairOf w a).2 ∨ a = (pairOf w b).2
theorem without1_comm (sq : Bd) (a b : Sq) : without1 sq (a, b) = without1 sq (b, a) := by
  unfold without1
  apply List.filter_congr
  intro s _
  simp only [List.mem_cons, List.not_mem_nil, or_false]
  congr 1
  exact decide_eq_decide.mpr or_comm
theorem W_iff (sq : Bd) (w : Str) : W sq w = true ↔ ∃ a b, a ∈ sq ∧ b ∈ sq ∧ adjS w a b ∧ W (without1 sq (a, b)) (oth w) = false := by
  rw [W_eq, List.any_eq_true]
  constructor
  · rintro ⟨p, hp, h⟩
    obtain ⟨h1, h2, h3⟩ := lays1_mem hp
    refine ⟨p.1, p.2, h1, h2, .inl (congrArg Prod.snd h3), ?_⟩
    simpa using h
  · rintro ⟨a, b, ha, hb, h1, h2⟩
    rcases h1 with e | e
    · refine ⟨pairOf w a, lays1_of ha (e ▸ hb), ?_⟩
      have : pairOf w a = (a, b) := Prod.ext rfl e.symm
      rw [this, h2]
      rfl
    · refine ⟨pairOf w b, lays1_of hb (e ▸ ha), ?_⟩
      have : pairOf w b = (b, a) := Prod.ext rfl e.symm
      rw [this, without1_comm, h2]
      rfl
structure Sym (φ : Sq → Sq) (ψ : Str → Str) : Prop where
  inj : ∀ a b, φ a = φ b → a = b
  isw : ∀ w, isW w → isW (ψ w)
  oth : ∀ w, isW w → ψ (K52.oth w) = K52.oth (ψ w)
  adj : ∀ w, isW w → ∀ a b, adjS (ψ w) (φ a) (φ b) ↔ adjS w a b
def MapOf (φ : Sq → Sq) (sq sq' : Bd) : Prop := ∀ s, s ∈ sq' ↔ ∃ a ∈ sq, s = φ a
theorem MapOf.without {φ : Sq → Sq} {ψ : Str → Str} (h : Sym φ ψ) {sq sq' : Bd} (m : MapOf φ sq sq') (a b : Sq) : MapOf φ (without1 sq (a, b)) (without1 sq' (φ a, φ b)) := fun s => by
  rw [without1_mem, m]
  constructor
  · rintro ⟨⟨c, hc, rfl⟩, h1, h2⟩
    exact ⟨c, without1_mem.mpr ⟨hc, fun e => h1 (congrArg φ e), fun e => h2 (congrArg φ e)⟩, rfl⟩
  · rintro ⟨c, hc, rfl⟩
    obtain ⟨h1, h2, h3⟩ := without1_mem.mp hc
    exact ⟨⟨c, h1, rfl⟩, fun e => h2 (h.inj _ _ e), fun e => h3 (h.inj _ _ e)⟩
theorem W_sym {φ : Sq → Sq} {ψ : Str → Str} (h : Sym φ ψ) : ∀ (n : Nat) (sq sq' : Bd) (w : Str), sq.length ≤ n → isW w → MapOf φ sq sq' → W sq' (ψ w) = W sq w
  | n, sq, sq', w, hn, hw, m => by
    have key : ∀ a b, a ∈ sq → b ∈ sq → W (without1 sq' (φ a, φ b)) (oth (ψ w)) = W (without1 sq (a, b)) (oth w) := fun a b ha hb => by
      have hl := without1_lt (p := (a, b)) ha
      cases n with
      | zero => have := List.length_pos_of_mem ha; omega
      | succ n =>
        rw [← h.oth w hw]
        exact W_sym h n _ _ (oth w) (by omega) (oth_isW w) (m.without h a b)
    rw [Bool.eq_iff_iff, W_iff, W_iff]
    constructor
    · rintro ⟨a', b', ha, hb, h1, h2⟩
      obtain ⟨a, ha2, rfl⟩ := (m a').mp ha
      obtain ⟨b, hb2, rfl⟩ := (m b').mp hb
      rw [key a b ha2 hb2] at h2
      exact ⟨a, b, ha2, hb2, (h.adj w hw a b).mp h1, h2⟩
    · rintro ⟨a, b, ha, hb, h1, h2⟩
      rw [← key a b ha hb] at h2
      exact ⟨φ a, φ b, (m _).mpr ⟨a, ha, rfl⟩, (m _).mpr ⟨b, hb, rfl⟩, (h.adj w hw a b).mpr h1, h2⟩
def fTurn (p : Sq) : Sq := (p.2, p.1)
def fMirr (p : Sq) : Sq := (5 - p.1, p.2)
def fMove (p : Sq) : Sq := (p.1 + 2, p.2 + 1)
theorem lr : (("right" : Str) = "left") = False := by simp only [eq_iff_iff, iff_false]; decide
theorem sq_eq (a b : Sq) : a = b ↔ a.1 = b.1 ∧ a.2 = b.2 := ⟨fun h => by subst h; exact ⟨rfl, rfl⟩, fun h => Prod.ext h.1 h.2⟩
theorem symTurn : Sym fTurn oth := ⟨fun a b h => by
    simp only [sq_eq, fTurn] at h ⊢
    exact ⟨h.2, h.1⟩, fun w _ => oth_isW w, fun w hw => rfl, fun w hw a b => by
    rcases hw with rfl | rfl <;> simp [adjS, pairOf, stepOf, oth, fTurn, sq_eq, lr] <;> omega⟩
theorem symMirr : Sym fMirr id := ⟨fun a b h => by
    simp only [sq_eq, fMirr] at h ⊢
    omega, fun w h => h, fun w hw => rfl, fun w hw a b => by
    rcases hw with rfl | rfl <;> simp [adjS, pairOf, stepOf, oth, fMirr, sq_eq, lr] <;> omega⟩
theorem symMove : Sym fMove id := ⟨fun a b h => by
    simp only [sq_eq, fMove] at h ⊢
    omega, fun w h => h, fun w hw => rfl, fun w hw a b => by
    rcases hw with rfl | rfl <;> simp [adjS, pairOf, stepOf, oth, fMove, sq_eq, lr] <;> omega⟩
theorem map_of (φ : Sq → Sq) (b : Bd) : MapOf φ b (isS leP (b.map φ)) := fun s => by
  rw [(isS_perm leP _).mem_iff, List.mem_map]
  constructor
  · rintro ⟨a, ha, rfl⟩; exact ⟨a, ha, rfl⟩
  · rintro ⟨a, ha, rfl⟩; exact ⟨a, ha, rfl⟩
theorem brd_of {φ : Sq → Sq} {ψ : Str → Str} (h : Sym φ ψ) {b : Bd} (g : BrdG b) (hr : ∀ s : Sq, 0 ≤ s.1 ∧ s.1 ≤ 3 ∧ 0 ≤ s.2 ∧ s.2 ≤ 3 → 0 ≤ (φ s).1 ∧ (φ s).1 ≤ 5 ∧ 0 ≤ (φ s).2 ∧ (φ s).2 ≤ 5) : Brd (isS leP (b.map φ)) := by
  have hl : (isS leP (b.map φ)).length = b.length := by rw [(isS_perm leP _).length_eq, List.length_map]
  refine ⟨isS_up ?_, by rw [hl]; exact g.pos, by rw [hl]; exact g.len, fun s hs => ?_⟩
  · have := up_nodup g.brd.up
    rw [List.nodup_iff_pairwise_ne] at this ⊢
    exact List.pairwise_map.mpr (this.imp fun {a b} ne e => ne (h.inj a b e))
  · obtain ⟨a, ha, rfl⟩ := (map_of φ b s).mp hs
    exact hr a (grid_in a (g.sub.subset ha))
theorem wd_turn {b : Bd} : Wd (isS leP (b.map fTurn)) = wordOf (W b "right") (W b "left") := by
  have h1 := W_sym symTurn b.length b _ "right" (Nat.le_refl _) (.inr rfl) (map_of fTurn b)
  have h2 := W_sym symTurn b.length b _ "left" (Nat.le_refl _) (.inl rfl) (map_of fTurn b)
  have e1 : oth "right" = ("left" : Str) := by decide
  have e2 : oth "left" = ("right" : Str) := by decide
  rw [e1] at h1
  rw [e2] at h2
  unfold Wd
  rw [h1, h2]
theorem wd_id {φ : Sq → Sq} (h : Sym φ id) {b : Bd} : Wd (isS leP (b.map φ)) = Wd b := by
  have h1 := W_sym h b.length b _ "right" (Nat.le_refl _) (.inr rfl) (map_of φ b)
  have h2 := W_sym h b.length b _ "left" (Nat.le_refl _) (.inl rfl) (map_of φ b)
  simp only [id] at h1 h2
  unfold Wd
  rw [h1, h2]
theorem dict_turn (l r : Bool) : pDictGet [("left", "right"), ("right", "left")] (wordOf l r) (wordOf l r) = some (wordOf r l) := by
  cases l <;> cases r <;> decide
end K52

set_option Elab.async false
set_option linter.all false
set_option maxRecDepth 100000
set_option autoImplicit false
/-! law k52: the parts of a board. -/
namespace K52
open PySem PySem.Spec PyProof.Rows L2 DL
theorem while_ok {α : Type} {c : α → Option Bool} {b : α → Option α} (I : α → Prop) (μ : α → Nat) (ct : α → Bool) (hc : ∀ a, I a → c a = some (ct a)) (hb : ∀ a, I a → ct a = true → ∃ a', b a = some a' ∧ I a' ∧ μ a' < μ a) :
    ∀ (n : Nat) (a : α), I a → μ a < n → ∃ a', pWhile c b n a = some a' ∧ I a' ∧ ct a' = false
  | 0, _, _, h => by omega
  | n + 1, a, hI, h => by
    unfold pWhile
    rw [hc a hI, Option.bind_some]
    cases e : ct a with
    | false => exact ⟨a, by simp, hI, e⟩
    | true =>
      obtain ⟨a1, h1, h2, h3⟩ := hb a hI e
      obtain ⟨a2, h4, h5⟩ := while_ok I μ ct hc hb n a1 h2 (by omega)
      exact ⟨a2, by simp [h1, h4], h5⟩
theorem while_sim {α : Type} {c1 c2 : α → Option Bool} {b1 b2 : α → Option α} (I : α → Prop) (h : ∀ a, I a → c1 a = c2 a ∧ (c1 a = some true → b1 a = b2 a ∧ ∀ a', b1 a = some a' → I a')) : ∀ (n : Nat) (a : α), I a → pWhile c1 b1 n a = pWhile c2 b2 n a
  | 0, _, _ => rfl
  | n + 1, a, hI => by
    obtain ⟨h1, h2⟩ := h a hI
    unfold pWhile
    rw [← h1]
    cases e : c1 a with
    | none => rfl
    | some k =>
      cases k with
      | false => rfl
      | true =>
        obtain ⟨h3, h4⟩ := h2 e
        simp only [Option.bind_some, if_true]
        rw [← h3]
        cases e2 : b1 a with
        | none => rfl
        | some a' => exact while_sim I h n a' (h4 a' e2)
def adj (a b : Sq) : Prop := b = (a.1 + 1, a.2) ∨ b = (a.1 - 1, a.2) ∨ b = (a.1, a.2 + 1) ∨ b = (a.1, a.2 - 1)
instance (a b : Sq) : Decidable (adj a b) := by unfold adj; infer_instance
theorem beside_eq (a b : Sq) : P_beside a b = some (decide (adj a b)) := by
  have h : P_beside a b = some (decide (absI (a.1 - b.1) + absI (a.2 - b.2) = 1)) := by simp [P_beside, pB1, pB2]
  rw [h]
  congr 1
  refine decide_eq_decide.mpr ?_
  unfold absI adj
  simp only [sq_eq]
  split <;> split <;> omega
inductive Reach (rest : Bd) (x0 : Sq) : Sq → Prop
  | base : Reach rest x0 x0
  | step {y z : Sq} : Reach rest x0 y → z ∈ rest → adj y z → Reach rest x0 z
structure Comp (rest : Bd) (x0 : Sq) (p : Bd) : Prop where
  nd : p.Nodup
  mem : ∀ x, x ∈ p ↔ Reach rest x0 x
theorem Comp.of {rest : Bd} {x0 : Sq} {p : Bd} (h1 : p.Nodup) (h2 : x0 ∈ p) (h3 : ∀ y ∈ p, Reach rest x0 y) (h4 : ∀ y ∈ p, ∀ z ∈ rest, adj y z → z ∈ p) : Comp rest x0 p := ⟨h1, fun x => ⟨h3 x, fun h => by
  induction h with
  | base => exact h2
  | step _ hz ha ih => exact h4 _ ih _ hz ha⟩⟩
theorem Comp.same {rest : Bd} {x0 : Sq} {p q : Bd} (h : Comp rest x0 p) (g : Comp rest x0 q) : isS leP p = isS leP q :=
  up_ext (isS_up h.nd) (isS_up g.nd) fun x => by rw [(isS_perm leP _).mem_iff, (isS_perm leP _).mem_iff, h.mem, g.mem]
/-! the program's flood -/
abbrev inC1 (s4 : (List (Int × Int)) × (List (Int × Int))) : Option Bool := (Option.map (fun a => !decide (s4.1 = a)) (pB1 pFit (some ([] : List (Int × Int)))))
abbrev inB1 (rest : Bd) (s4 : (List (Int × Int)) × (List (Int × Int))) : Option ((List (Int × Int)) × (List (Int × Int))) := ((pPop s4.1).bind fun v5 => (((some rest).bind fun xs => (pFit xs).bind fun xs => pComp (fun (x6 : (Int × Int)) => (pAnd (Option.map (fun a => !decide (a ∈ s4.2)) (some x6)) (pB2 P_beside (some v5.2) (some x6)))) (fun (x6 : (Int × Int)) => (some x6)) xs).bind fun v7 => (((some v7).bind fun a => pFit (s4.2 ++ a)).bind fun v8 => (Option.map (fun v9 => (v9, v8)) ((some v7).bind fun a => pFit (v5.1 ++ a))))))
structure Inv1 (rest : Bd) (x0 : Sq) (s : Bd × Bd) : Prop where
  nd : s.2.Nodup
  st : x0 ∈ s.2
  re : ∀ y ∈ s.2, Reach rest x0 y
  sub : ∀ y ∈ s.2, y ∈ rest
  wa : ∀ y ∈ s.1, y ∈ s.2
  cl : ∀ y ∈ s.2, y ∉ s.1 → ∀ z ∈ rest, adj y z → z ∈ s.2
theorem step1 {rest : Bd} {x0 : Sq} (hn : rest.Nodup) (hl : rest.length ≤ 12) {w p : Bd} (hI : Inv1 rest x0 (w, p)) (hw : w ≠ []) (hwl : w.length ≤ 1000) : ∃ s', inB1 rest (w, p) = some s' ∧ Inv1 rest x0 s' ∧ s'.1.length + (rest.length - s'.2.length) < w.length + (rest.length - p.length) ∧ s'.1.length ≤ w.length + 12 := by
  obtain ⟨u, here, rfl⟩ : ∃ u here, w = u ++ [here] := ⟨w.dropLast, w.getLast hw, (List.dropLast_concat_getLast hw).symm⟩
  have hpop : pPop (u ++ [here]) = some (u, here) := by
    unfold pPop
    simp
  obtain ⟨v, hv⟩ : ∃ v, v = rest.filter fun x => !decide (x ∈ p) && decide (adj here x) := ⟨_, rfl⟩
  have hcomp : pComp (fun (x6 : (Int × Int)) => (pAnd (some (!decide (x6 ∈ p))) (pB2 P_beside (some here) (some x6)))) (fun (x6 : (Int × Int)) => (some x6)) rest = some v := by
    rw [pComp_filter (p := fun x => !decide (x ∈ p) && decide (adj here x)) (f := fun x => x), List.map_id', hv]
    · intro x _
      simp only [pB2, Option.bind_some, beside_eq, pAnd]
      cases decide (x ∈ p) <;> simp
    · intro x _ _; rfl
  have hvl : v.length ≤ 12 := by
    rw [hv]
    exact Nat.le_trans (List.length_filter_le _ _) hl
  have hpl : p.length ≤ rest.length := nodup_sub hI.nd hI.sub
  have hvm : ∀ x, x ∈ v ↔ x ∈ rest ∧ x ∉ p ∧ adj here x := fun x => by rw [hv, List.mem_filter]; simp
  have hh : here ∈ p := hI.wa here (by simp)
  have hul : u.length + 1 ≤ 1000 := by simpa using hwl
  refine ⟨(u ++ v, p ++ v), ?_, ⟨?_, ?_, ?_, ?_, ?_, ?_⟩, ?_, ?_⟩
  · simp only [inB1, hpop, Option.bind_some, pFit_of (show rest.length ≤ 16777216 by omega), hcomp, pFit_of (show (p ++ v).length ≤ 16777216 by rw [List.length_append]; omega), pFit_of (show (u ++ v).length ≤ 16777216 by rw [List.length_append]; omega), Option.map_some]
  · rw [List.nodup_append]
    refine ⟨hI.nd, hv ▸ hn.filter _, fun a ha b hb e => ?_⟩
    subst e
    exact ((hvm a).mp hb).2.1 ha
  · exact List.mem_append.mpr (.inl hI.st)
  · intro y hy
    rcases List.mem_append.mp hy with q | q
    · exact hI.re y q
    · obtain ⟨q1, _, q3⟩ := (hvm y).mp q
      exact .step (hI.re here hh) q1 q3
  · intro y hy
    rcases List.mem_append.mp hy with q | q
    · exact hI.sub y q
    · exact ((hvm y).mp q).1
  · intro y hy
    rcases List.mem_append.mp hy with q | q
    · exact List.mem_append.mpr (.inl (hI.wa y (by simp [q])))
    · exact List.mem_append.mpr (.inr q)
  · intro y hy hny z hz ha
    have hny' : y ∉ u ∧ y ∉ v := by simpa using hny
    rcases List.mem_append.mp hy with q | q
    · by_cases e : y = here
      · subst e
        by_cases hzp : z ∈ p
        · exact List.mem_append.mpr (.inl hzp)
        · exact List.mem_append.mpr (.inr ((hvm z).mpr ⟨hz, hzp, ha⟩))
      · exact List.mem_append.mpr (.inl (hI.cl y q (by simp [hny'.1, e]) z hz ha))
    · exact absurd q hny'.2
  · have h2 : (p ++ v).length ≤ rest.length := nodup_sub (by
      rw [List.nodup_append]
      refine ⟨hI.nd, hv ▸ hn.filter _, fun a ha b hb e => ?_⟩
      subst e
      exact ((hvm a).mp hb).2.1 ha) fun y hy => by
        rcases List.mem_append.mp hy with q | q
        · exact hI.sub y q
        · exact ((hvm y).mp q).1
    rw [List.length_append] at h2
    simp only [List.length_append, List.length_singleton]
    omega
  · simp only [List.length_append, List.length_singleton]
    omega
theorem flood1 {rest : Bd} {x0 : Sq} (hn : rest.Nodup) (hl : rest.length ≤ 12) (h0 : x0 ∈ rest) : ∃ w p, pWhile inC1 (inB1 rest) 20 ([x0], [x0]) = some (w, p) ∧ Comp rest x0 p ∧ (∀ y ∈ p, y ∈ rest) ∧ x0 ∈ p := by
  have hpos : 0 < rest.length := List.length_pos_of_mem h0
  obtain ⟨⟨w, p⟩, h1, ⟨h2, _⟩, h3⟩ := while_ok (c := inC1) (b := inB1 rest) (fun s => Inv1 rest x0 s ∧ s.1.length + (rest.length - s.2.length) ≤ 12) (fun s => s.1.length + (rest.length - s.2.length)) (fun s => !decide (s.1 = []))
    (fun a _ => rfl) (fun a ⟨hI, hm⟩ ht => by
      obtain ⟨w, p⟩ := a
      have hw : w ≠ [] := by simpa using ht
      obtain ⟨s', e1, e2, e3, _⟩ := step1 hn hl hI hw (by dsimp only at hm; omega)
      exact ⟨s', e1, ⟨e2, by dsimp only at hm; omega⟩, e3⟩) 20 ([x0], [x0])
    ⟨⟨by simp, by simp, fun y hy => by simp at hy; subst hy; exact .base, fun y hy => by simp at hy; subst hy; exact h0, fun y hy => hy, fun y hy hny => absurd hy hny⟩, by simp; omega⟩ (by simp; omega)
  have hw : w = [] := by simpa using h3
  subst hw
  exact ⟨[], p, h1, Comp.of h2.nd h2.st h2.re fun y hy z hz ha => h2.cl y hy (by simp) z hz ha, h2.sub, h2.st⟩
/-! the law's flood -/
abbrev near (v : Sq) : Bd := [(v.1 + 1, v.2), (v.1 - 1, v.2), (v.1, v.2 + 1), (v.1, v.2 - 1)]
abbrev inC2 (s4 : (List (Int × Int)) × Int) : Option Bool := (pB2 (fun a b => some (decide (a < b))) (some s4.2) (some ((List.map (eP eI eI) s4.1).length : Int)))
abbrev inB2 (rest : Bd) (s4 : (List (Int × Int)) × Int) : Option ((List (Int × Int)) × Int) := ((pB1 (pIx s4.1) (some s4.2)).bind fun v5 => ((pB1 pFit (pB2 (fun x xs => some (x :: xs)) (pB2 (fun a b => some (a, b)) (pB2 (fun a b => some (a + b)) (some v5.1) (some (1 : Int))) (some v5.2)) (pB2 (fun x xs => some (x :: xs)) (pB2 (fun a b => some (a, b)) (pB2 (fun a b => some (a - b)) (some v5.1) (some (1 : Int))) (some v5.2)) (pB2 (fun x xs => some (x :: xs)) (pB2 (fun a b => some (a, b)) (some v5.1) (pB2 (fun a b => some (a + b)) (some v5.2) (some (1 : Int)))) (pB2 (fun x xs => some (x :: xs)) (pB2 (fun a b => some (a, b)) (some v5.1) (pB2 (fun a b => some (a - b)) (some v5.2) (some (1 : Int)))) (some ([] : List (Int × Int)))))))).bind fun v6 => ((((some v6).bind fun xs => (pFit xs).bind fun xs => pComp (fun (x7 : (Int × Int)) => (pAnd (pB2 (fun a b => some (decide (a ∈ b))) (some x7) (some rest)) (Option.map (fun a => !decide (a ∈ s4.1)) (some x7)))) (fun (x7 : (Int × Int)) => (some x7)) xs).bind fun a => pFit (s4.1 ++ a)).bind fun v8 => (Option.map (fun v9 => (v8, v9)) (pB2 (fun a b => some (a + b)) (some s4.2) (some (1 : Int)))))))
structure Inv2 (rest : Bd) (x0 : Sq) (s : Bd × Int) : Prop where
  nd : s.1.Nodup
  st : x0 ∈ s.1
  re : ∀ y ∈ s.1, Reach rest x0 y
  sub : ∀ y ∈ s.1, y ∈ rest
  lo : 0 ≤ s.2
  hi : s.2 ≤ (s.1.length : Int)
  cl : ∀ (i : Nat) y, (i : Int) < s.2 → s.1[i]? = some y → ∀ z ∈ rest, adj y z → z ∈ s.1
theorem near_mem (v z : Sq) : z ∈ near v ↔ adj v z := by
  unfold near adj
  simp
theorem near_nodup (v : Sq) : (near v).Nodup := by
  unfold near
  simp [List.nodup_cons, sq_eq]
  omega
theorem step2 {rest : Bd} {x0 : Sq} (hl : rest.length ≤ 12) {p : Bd} {a : Int} (hI : Inv2 rest x0 (p, a)) (ha : a < (p.length : Int)) : ∃ s', inB2 rest (p, a) = some s' ∧ Inv2 rest x0 s' ∧ s'.2 = a + 1 := by
  obtain ⟨j, rfl⟩ := Int.eq_ofNat_of_zero_le hI.lo
  have hj : j < p.length := by omega
  obtain ⟨y, hy⟩ : ∃ y, p[j]? = some y := ⟨p[j], List.getElem?_eq_getElem hj⟩
  have hix : pIx p (j : Int) = some y := by
    unfold pIx
    rw [DL.atI_nat, hy]
    exact hj
  have hyp : y ∈ p := List.mem_of_getElem? hy
  obtain ⟨v, hv⟩ : ∃ v, v = (near y).filter fun x => decide (x ∈ rest) && !decide (x ∈ p) := ⟨_, rfl⟩
  have hcomp : pComp (fun (x7 : (Int × Int)) => (pAnd (some (decide (x7 ∈ rest))) (some (!decide (x7 ∈ p))))) (fun (x7 : (Int × Int)) => (some x7)) (near y) = some v := by
    rw [pComp_filter (p := fun x => decide (x ∈ rest) && !decide (x ∈ p)) (f := fun x => x), List.map_id', hv]
    · intro x _
      simp only [pAnd, Option.bind_some]
      cases decide (x ∈ rest) <;> simp
    · intro x _ _; rfl
  have hvm : ∀ x, x ∈ v ↔ adj y x ∧ x ∈ rest ∧ x ∉ p := fun x => by rw [hv, List.mem_filter, near_mem]; simp
  have hpl : p.length ≤ rest.length := nodup_sub hI.nd hI.sub
  have hvl : v.length ≤ 4 := by
    rw [hv]
    exact Nat.le_trans (List.length_filter_le _ _) (by simp [near])
  have hnear : pFit (near y) = some (near y) := pFit_of (by simp [near])
  refine ⟨(p ++ v, (j : Int) + 1), ?_, ⟨?_, ?_, ?_, ?_, ?_, ?_, ?_⟩, rfl⟩
  · have hfit : pFit (p ++ v) = some (p ++ v) := pFit_of (by rw [List.length_append]; omega)
    unfold near at hnear hcomp
    simp only [inB2, pB1, pB2, Option.bind_some, hix, hnear, Option.map_some, hcomp, hfit]
  · rw [List.nodup_append]
    refine ⟨hI.nd, hv ▸ (near_nodup y).filter _, fun a ha b hb e => ?_⟩
    subst e
    exact ((hvm a).mp hb).2.2 ha
  · exact List.mem_append.mpr (.inl hI.st)
  · intro x hx
    rcases List.mem_append.mp hx with q | q
    · exact hI.re x q
    · obtain ⟨q1, q2, _⟩ := (hvm x).mp q
      exact .step (hI.re y hyp) q2 q1
  · intro x hx
    rcases List.mem_append.mp hx with q | q
    · exact hI.sub x q
    · exact ((hvm x).mp q).2.1
  · dsimp only; omega
  · simp only [List.length_append]; omega
  · intro i x hi hx z hz hz2
    dsimp only at hi hx ⊢
    rw [List.getElem?_append_left (by omega)] at hx
    by_cases e : i = j
    · subst e
      rw [hy] at hx
      cases hx
      by_cases hzp : z ∈ p
      · exact List.mem_append.mpr (.inl hzp)
      · exact List.mem_append.mpr (.inr ((hvm z).mpr ⟨hz2, hz, hzp⟩))
    · exact List.mem_append.mpr (.inl (hI.cl i x (by dsimp only; omega) hx z hz hz2))
theorem flood2 {rest : Bd} {x0 : Sq} (hl : rest.length ≤ 12) (h0 : x0 ∈ rest) : ∃ p a, pWhile inC2 (inB2 rest) 20 ([x0], 0) = some (p, a) ∧ Comp rest x0 p := by
  have hpos : 0 < rest.length := List.length_pos_of_mem h0
  obtain ⟨⟨p, a⟩, h1, h2, h3⟩ := while_ok (c := inC2) (b := inB2 rest) (Inv2 rest x0) (fun s => rest.length - s.2.toNat) (fun s => decide (s.2 < (s.1.length : Int)))
    (fun a _ => by simp [inC2, pB2]) (fun a hI ht => by
      obtain ⟨p, a⟩ := a
      have hw : a < (p.length : Int) := by simpa using ht
      obtain ⟨s', e1, e2, e3⟩ := step2 hl hI hw
      have hpl : p.length ≤ rest.length := nodup_sub hI.nd hI.sub
      have := hI.lo
      exact ⟨s', e1, e2, by dsimp only at *; omega⟩) 20 ([x0], 0)
    ⟨by simp, by simp, fun y hy => by simp at hy; subst hy; exact .base, fun y hy => by simp at hy; subst hy; exact h0, by simp, by simp, fun i y hi => by simp at hi; omega⟩ (by simp; omega)
  have hw : ¬ a < (p.length : Int) := by simpa using h3
  refine ⟨p, a, h1, Comp.of h2.nd h2.st h2.re fun y hy z hz ha => ?_⟩
  obtain ⟨i, hi, e⟩ := List.mem_iff_getElem.mp hy
  exact h2.cl i y (by dsimp only; omega) (by rw [List.getElem?_eq_getElem hi, e]) z hz ha
end K52

set_option Elab.async false
set_option linter.all false
set_option maxRecDepth 100000
set_option autoImplicit false
/-! law k52: the parts of a board, both ways. -/
namespace K52
open PySem PySem.Spec PyProof.Rows L2 DL
abbrev OutS := (List (List (Int × Int))) × (List (Int × Int))
abbrev outC (s2 : OutS) : Option Bool := (pB2 (fun a b => some (!decide (a = b))) (some s2.2) (pB1 pFit (some ([] : List (Int × Int)))))
abbrev outE (s2 : OutS) (p : Bd) : Option OutS := (((pB1 (fun xs => some xs) (pB1 pSortP (some p))).bind fun a => pFit (s2.1 ++ [a])).bind fun v12 => (Option.map (fun v14 => (v12, v14)) ((some s2.2).bind fun xs => (pFit xs).bind fun xs => pComp (fun (x13 : (Int × Int)) => (pB2 (fun a b => some (!decide (a ∈ b))) (some x13) (some p))) (fun (x13 : (Int × Int)) => (some x13)) xs)))
abbrev outB1 (s2 : OutS) : Option OutS := ((pB2 (fun a b => some (a, b)) (pB1 pFit (pB2 (fun x xs => some (x :: xs)) (pB2 pIx (some s2.2) (some (0 : Int))) (some ([] : List (Int × Int))))) (pB1 pFit (pB2 (fun x xs => some (x :: xs)) (pB2 pIx (some s2.2) (some (0 : Int))) (some ([] : List (Int × Int)))))).bind fun v3 => ((pWhile inC1 (inB1 s2.2) 20 (v3.2, v3.1)).bind fun v10 => ((some ()).bind fun _ => outE s2 v10.2)))
abbrev outB2 (s2 : OutS) : Option OutS := ((pB2 (fun a b => some (a, b)) (pB1 pFit (pB2 (fun x xs => some (x :: xs)) (pB2 pIx (some s2.2) (some (0 : Int))) (some ([] : List (Int × Int))))) (some (0 : Int))).bind fun v3 => ((pWhile inC2 (inB2 s2.2) 20 (v3.1, v3.2)).bind fun v10 => ((some ()).bind fun _ => outE s2 v10.1)))
theorem parts_form (b : Bd) : P_parts_of b = ((pB2 (fun a b => some (a, b)) (pB1 pFit (some ([] : List (List (Int × Int))))) (pB1 (fun xs => some xs) (some b))).bind fun v1 => ((pWhile outC outB1 20 (v1.1, v1.2)).bind fun v15 => ((some ()).bind fun v16 => (pB1 (fun xs => some xs) (some v15.1))))) := rfl
theorem law_parts_form (b : Bd) : P_law_parts b = ((pB2 (fun a b => some (a, b)) (pB1 pFit (some ([] : List (List (Int × Int))))) (pB1 (fun xs => some xs) (some b))).bind fun v1 => ((pWhile outC outB2 20 (v1.1, v1.2)).bind fun v15 => ((some ()).bind fun v16 => (pB1 (fun xs => some xs) (some v15.1))))) := rfl
def InvO (b : Bd) (s : OutS) : Prop := s.2.Nodup ∧ s.1.length + s.2.length ≤ 12 ∧ (∀ p ∈ s.1, p.length ≤ 12 ∧ ∀ x ∈ p, x ∈ b) ∧ ∀ x ∈ s.2, x ∈ b
def drop1 (rest p : Bd) : Bd := rest.filter fun x => !decide (x ∈ p)
theorem outE_ok {found : List Bd} {rest p : Bd} (h : found.length + rest.length ≤ 12) : outE (found, rest) p = some (found ++ [isS leP p], drop1 rest p) := by
  have h1 : pComp (fun (x13 : (Int × Int)) => some (!decide (x13 ∈ p))) (fun (x13 : (Int × Int)) => (some x13)) rest = some (drop1 rest p) := by
    unfold drop1
    rw [pComp_filter (p := fun x => !decide (x ∈ p)) (f := fun x => x) (fun x _ => rfl) (fun x _ _ => rfl), List.map_id']
  have h2 : pFit rest = some rest := pFit_of (by omega)
  have h3 : pFit (found ++ [isS leP p]) = some (found ++ [isS leP p]) := pFit_of (by rw [List.length_append, List.length_singleton]; omega)
  simp only [outE, pB1, pB2, pSortP, Option.bind_some, h1, h2, h3, Option.map_some]
theorem out_ok {found : List Bd} {x0 : Sq} {r : Bd} (hn : (x0 :: r).Nodup) (h : found.length + (x0 :: r).length ≤ 12) : ∃ p, (x0 ∈ p ∧ p.length ≤ 12 ∧ ∀ x ∈ p, x ∈ x0 :: r) ∧ outB1 (found, x0 :: r) = some (found ++ [isS leP p], drop1 (x0 :: r) p) ∧ outB2 (found, x0 :: r) = some (found ++ [isS leP p], drop1 (x0 :: r) p) := by
  obtain ⟨w, p, h1, h2, h3, h4⟩ := flood1 (x0 := x0) hn (by omega) List.mem_cons_self
  obtain ⟨q, a, g1, g2⟩ := flood2 (rest := x0 :: r) (x0 := x0) (by omega) List.mem_cons_self
  have hix : pIx (x0 :: r) (0 : Int) = some x0 := by
    unfold pIx
    rw [show (0 : Int) = ((0 : Nat) : Int) from rfl, DL.atI_nat]
    · rfl
    · simp
  have hf : pFit [x0] = some [x0] := rfl
  have e1 := outE_ok (p := p) h
  have e2 := outE_ok (p := q) h
  refine ⟨p, ⟨h4, Nat.le_trans (nodup_sub h2.nd h3) (by omega), h3⟩, ?_, ?_⟩
  · have : outB1 (found, x0 :: r) = outE (found, x0 :: r) p := by
      unfold outB1
      simp only [pB1, pB2, hix, hf, Option.bind_some]
      rw [h1]
      rfl
    rw [this, e1]
  · have : outB2 (found, x0 :: r) = outE (found, x0 :: r) q := by
      unfold outB2
      simp only [pB1, pB2, hix, hf, Option.bind_some]
      rw [g1]
      rfl
    rw [this, e2, h2.same g2]
    congr 2
    unfold drop1
    apply List.filter_congr
    intro x _
    congr 1
    exact decide_eq_decide.mpr (by rw [h2.mem, g2.mem])
theorem outC_eq (s : OutS) : outC s = some (!decide (s.2 = [])) := rfl
theorem InvO.next {b : Bd} {found : List Bd} {x0 : Sq} {r p : Bd} (hI : InvO b (found, x0 :: r)) (h : x0 ∈ p ∧ p.length ≤ 12 ∧ ∀ x ∈ p, x ∈ x0 :: r) : InvO b (found ++ [isS leP p], drop1 (x0 :: r) p) ∧ (drop1 (x0 :: r) p).length < (x0 :: r).length := by
  have hlt : (drop1 (x0 :: r) p).length < (x0 :: r).length := by
    unfold drop1
    rw [List.length_filter_lt_length_iff_exists]
    exact ⟨x0, List.mem_cons_self, by simp [h.1]⟩
  obtain ⟨h1, h2, h4, h5⟩ := hI
  have h3 : (drop1 (x0 :: r) p).Nodup := List.Pairwise.filter _ h1
  refine ⟨⟨h3, ?_, fun q hq => ?_, fun x hx => h5 x (List.mem_filter.mp hx).1⟩, hlt⟩
  · rw [List.length_append, List.length_singleton]
    dsimp only at h2 ⊢
    omega
  · rcases List.mem_append.mp hq with e | e
    · exact h4 q e
    · obtain rfl := List.mem_singleton.mp e
      exact ⟨by rw [(isS_perm leP p).length_eq]; exact h.2.1, fun x hx => h5 x (h.2.2 x ((isS_perm leP p).mem_iff.mp hx))⟩
theorem parts_ok {b : Bd} (hn : b.Nodup) (hl : b.length ≤ 12) : ∃ r, P_parts_of b = some r ∧ P_law_parts b = some r ∧ r.length ≤ 12 ∧ ∀ p ∈ r, p.length ≤ 12 ∧ ∀ x ∈ p, x ∈ b := by
  have hs : pWhile outC outB1 20 ([], b) = pWhile outC outB2 20 ([], b) := while_sim (InvO b) (fun s hI => ⟨rfl, fun hc => by
    obtain ⟨found, rest⟩ := s
    rw [outC_eq] at hc
    cases rest with
    | nil => simp at hc
    | cons x0 r =>
      obtain ⟨p, h0, h1, h2⟩ := out_ok hI.1 hI.2.1
      refine ⟨by rw [h1, h2], fun a' ha => ?_⟩
      rw [h1] at ha
      cases ha
      exact (hI.next h0).1⟩) 20 _ ⟨hn, by simpa using hl, fun p hp => by simp at hp, fun x hx => hx⟩
  obtain ⟨s', h1, hJ, _⟩ := while_ok (c := outC) (b := outB1) (InvO b) (fun s => s.2.length) (fun s => !decide (s.2 = [])) (fun s _ => rfl) (fun s hI ht => by
    obtain ⟨found, rest⟩ := s
    cases rest with
    | nil => simp at ht
    | cons x0 r =>
      obtain ⟨p, h0, h1, _⟩ := out_ok hI.1 hI.2.1
      exact ⟨_, h1, (hI.next h0).1, (hI.next h0).2⟩) 20 ([], b) ⟨hn, by simpa using hl, fun p hp => by simp at hp, fun x hx => hx⟩ (by dsimp only; omega)
  have h0 : (pB2 (fun a b => some (a, b)) (pB1 pFit (some ([] : List (List (Int × Int))))) (pB1 (fun xs => some xs) (some b))) = some (([] : List Bd), b) := rfl
  refine ⟨s'.1, ?_, ?_, by have := hJ.2.1; omega, hJ.2.2.1⟩
  · rw [parts_form, h0, Option.bind_some, h1]
    rfl
  · rw [law_parts_form, h0, Option.bind_some, ← hs, h1]
    rfl
end K52

set_option Elab.async false
set_option linter.all false
set_option maxRecDepth 100000
set_option autoImplicit false
/-! law k52: the law holds. -/
namespace K52
open PySem PySem.Spec PyProof.Rows L2 DL
theorem sq_show {s : Sq} (h : 0 ≤ s.1 ∧ s.1 ≤ 5 ∧ 0 ≤ s.2 ∧ s.2 ≤ 5) : Shw (eP eI eI s) 84 1 := (Shw.p (e := eI) (f := eI) (w := 41) (h := 0) (Shw.int (by omega)) (Shw.int (by omega))).mono (by omega) (by omega)
theorem lays_show {b : Bd} (g : BrdG b) {ps : List Pr} (hl : ps.length ≤ 12) (h : ∀ p ∈ ps, p.1 ∈ b ∧ p.2 ∈ b) : showOk (eV ePr ps) = true :=
  (Shw.v (e := ePr) (w := 170) (h := 2) fun p hp => (Shw.p (e := eP eI eI) (f := eP eI eI) (sq_show (g.brd.inn _ (h p hp).1)) (sq_show (g.brd.inn _ (h p hp).2))).mono (by omega) (by omega)).ok (by omega) (by omega)
theorem word_show (l r : Bool) : showOk (eS (wordOf l r)) = true := by
  cases l <;> cases r <;> decide +kernel
/-- rising boards have rising lays -/
theorem lays_up {b : Bd} (h : b.Pairwise ltP) (w : Str) : isS leQ (lays1 b w) = lays1 b w := by
  have hp : (lays1 b w).Pairwise fun x y => leQ x y = true := by
    unfold lays1
    refine List.Pairwise.filter _ (List.pairwise_map.mpr (h.imp fun {x y} hxy => ?_))
    unfold leQ pairOf
    unfold ltP at hxy
    exact decide_eq_true (by dsimp only; omega)
  exact ((isS_perm leQ _).eq_of_pairwise (le := fun a b => leQ a b = true) (fun a b _ _ h1 h2 => ordQ.asy a b h1 h2) (isS_sorted ordQ _) hp)
theorem rep2 {α : Type} [DecidableEq α] {e : Enc α} {p q : Option α} (a : α) (hp : p = some a) (hq : q = some a) (hs : showOk (e a) = true) : pB2 (pRep e false) p q = some false := by
  subst hp hq
  simp [pB2, pRep, hs]
theorem parts_show {b : Bd} (g : BrdG b) {r : List Bd} (hl : r.length ≤ 12) (h : ∀ p ∈ r, p.length ≤ 12 ∧ ∀ x ∈ p, x ∈ b) : showOk (eV (eV (eP eI eI)) r) = true :=
  (Shw.v (e := eV (eP eI eI)) (w := 1020) (h := 2) fun p hp => (Shw.v (e := eP eI eI) (w := 84) (h := 1) fun x hx => sq_show (g.brd.inn _ ((h p hp).2 x hx))).mono (by have := (h p hp).1; omega) (by omega)).ok (by omega) (by omega)
theorem sort_map {b : Bd} (φ : Sq → Sq) (f : Sq → Option Sq) (hf : ∀ x, f x = some (φ x)) (hl : b.length ≤ 12) : pB1 (fun xs => some xs) (pB1 pSortP ((some b).bind fun xs => (pFit xs).bind fun xs => pComp (fun (x11 : (Int × Int)) => (some true)) f xs)) = some (isS leP (b.map φ)) := by
  have h1 : pFit b = some b := pFit_of (by omega)
  simp only [Option.bind_some, h1]
  rw [pComp_map (f := φ) fun x _ => hf x]
  rfl
theorem right_go (k : Int) (hk : k + 30 ≤ 1000000) : D_law_right (k, O.dead) fun b s => b = true ∧ s.1 ≤ k + 30 := by
  unfold D_law_right
  dsimp only [dBind, dOpt, dIf, dMap, dSeqF, dLift]
  refine ⟨12, rfl, board_drawn hk fun b k1 g hk1 => ?_⟩
  have g1 := g.brd
  refine ⟨_, rfl, ⟨⟨⟨[], rfl, Kn.nil _⟩, g.sub, g.len⟩, fun o1 ho1 => ?_⟩⟩
  have e1 : pB1 P_board_winner (some b) = some (Wd b) := by rw [show pB1 P_board_winner (some b) = P_board_winner b from rfl, g1.winner]
  refine ⟨false, rep2 _ e1 rfl (word_show _ _), ?_⟩
  simp only [Bool.false_eq_true, if_false]
  refine ⟨false, by rw [show pB1 P_is_board (some b) = P_is_board b from rfl, g1.is]; rfl, ?_⟩
  simp only [Bool.false_eq_true, if_false]
  have ew : pB1 pFit (pB2 (fun x xs => some (x :: xs)) (some ("left" : Str)) (pB2 (fun x xs => some (x :: xs)) (some ("right" : Str)) (some ([] : List Str)))) = some [("left" : Str), "right"] := rfl
  refine ⟨_, ew, ?_⟩
  refine dForR_inv (fun _ s => s.1 = k1 ∧ KnG b s.2) [("left" : Str), "right"] 0 (k1, o1) _ ⟨rfl, show KnG b o1 from ho1⟩ (fun i w s Q hi hI hq => ?_) fun s' hs' => ?_
  · obtain ⟨kk, o⟩ := s
    obtain ⟨rfl, ho⟩ := hI
    have hw : isW w := by
      have := List.mem_of_getElem? hi
      simpa [isW] using this
    have hlen := lays1_len b w
    have hL : pB2 P_law_lays (some b) (some w) = some (lays1 b w) := by
      show P_law_lays b w = _
      rw [P_law_lays_eq w (by have := g.len; omega), lays_up g1.up]
    have hL2 : pB2 P_lays (some b) (some w) = some (lays1 b w) := by
      show P_lays b w = _
      unfold P_lays
      show ((P_check_board b).bind fun v1 => (P_check_side w).bind fun v2 => P_lays_of b w) = _
      rw [g1.check, side_ok hw, Option.bind_some, Option.bind_some, P_lays_eq w (by have := g.len; omega)]
    refine ⟨_, hL, false, rep2 _ hL2 rfl (lays_show g (by have := g.len; omega) fun p hp => ⟨(lays1_mem hp).1, (lays1_mem hp).2.1⟩), ?_⟩
    simp only [Bool.false_eq_true, if_false]
    refine ⟨_, rfl, _, pFit_of (by have := g.len; omega), ?_⟩
    refine dComp_memo (p := fun p => !W (without1 b p) (oth w)) (f := fun p => p) (good := KnG b) ho (fun p hp o2 Q2 ho2 hq2 => ?_) (fun p hp s Q hq => ⟨p, rfl, hq⟩) fun o2 ho2 => ?_
    · have h1 : pB2 P_law_left (some b) (some p) = some (without1 b p) := P_law_left_eq p (by have := g.len; omega)
      have h2 : pB1 P_law_other (some w) = some (oth w) := P_law_other_eq w
      have hl := (without1_sub b p).length_le
      exact ⟨_, h1, _, h2, ⟨ho2, (without1_sub b p).trans g.sub, oth_isW w, by have := g.len; omega⟩, fun o3 ho3 => hq2 o3 ho3⟩
    · rw [List.map_id']
      have hG : pB2 P_good_lays (some b) (some w) = some ((lays1 b w).filter fun p => !W (without1 b p) (oth w)) := by
        show P_good_lays b w = _
        unfold P_good_lays
        rw [g1.check, side_ok hw, Option.bind_some, Option.bind_some, if_pos g.len]
      have hfl := List.length_filter_le (fun p => !W (without1 b p) (oth w)) (lays1 b w)
      refine ⟨false, rep2 _ hG rfl (lays_show g (by have := g.len; omega) fun p hp => ?_), ?_⟩
      · have hp := (List.mem_filter.mp hp).1
        exact ⟨(lays1_mem hp).1, (lays1_mem hp).2.1⟩
      · simp only [Bool.false_eq_true, if_false]
        exact ⟨_, rfl, hq _ ⟨rfl, ho2⟩⟩
  · obtain ⟨kk, o⟩ := s'
    obtain ⟨rfl, _⟩ := hs'
    dsimp only
    obtain ⟨r, hr1, hr2, hr3, hr4⟩ := parts_ok (up_nodup g1.up) g.len
    have hP : pB1 P_parts (some b) = some r := by
      show P_parts b = _
      unfold P_parts
      show ((P_check_board b).bind fun v1 => P_parts_of b) = _
      rw [g1.check, Option.bind_some, hr1]
    refine ⟨false, rep2 r hP hr2 (parts_show g hr3 hr4), ?_⟩
    simp only [Bool.false_eq_true, if_false]
    have hT := brd_of symTurn g (fun s hs => by unfold fTurn; dsimp only; omega)
    have hM := brd_of symMirr g (fun s hs => by unfold fMirr; dsimp only; omega)
    have hV := brd_of symMove g (fun s hs => by unfold fMove; dsimp only; omega)
    refine ⟨_, sort_map fTurn _ (fun x => rfl) g.len, ?_⟩
    have hd : pB2 (fun a b => some (!decide (a = b))) (pB1 P_board_winner (some (isS leP (b.map fTurn)))) (pB3 pDictGet (pB1 pFit (pB2 (fun x xs => some (x :: xs)) (pB2 (fun a b => some (a, b)) (some ("left" : Str)) (some ("right" : Str))) (pB2 (fun x xs => some (x :: xs)) (pB2 (fun a b => some (a, b)) (some ("right" : Str)) (some ("left" : Str))) (some ([] : List (Str × Str)))))) (some (Wd b)) (some (Wd b))) = some false := by
      have h1 : pB1 P_board_winner (some (isS leP (b.map fTurn))) = some (wordOf (W b "right") (W b "left")) := by
        show P_board_winner _ = _
        rw [hT.winner, wd_turn]
      have h2 : pB3 pDictGet (pB1 pFit (pB2 (fun x xs => some (x :: xs)) (pB2 (fun a b => some (a, b)) (some ("left" : Str)) (some ("right" : Str))) (pB2 (fun x xs => some (x :: xs)) (pB2 (fun a b => some (a, b)) (some ("right" : Str)) (some ("left" : Str))) (some ([] : List (Str × Str)))))) (some (Wd b)) (some (Wd b)) = some (wordOf (W b "right") (W b "left")) := dict_turn _ _
      rw [h1, h2]
      simp [pB2]
    refine ⟨false, hd, ?_⟩
    simp only [Bool.false_eq_true, if_false]
    refine ⟨_, sort_map fMirr _ (fun x => rfl) g.len, _, sort_map fMove _ (fun x => rfl) g.len, true, ?_, rfl, hk1⟩
    have h1 : pB1 P_board_winner (some (isS leP (b.map fMirr))) = some (Wd b) := by
      show P_board_winner _ = _
      rw [hM.winner, wd_id symMirr]
    have h2 : pB1 P_board_winner (some (isS leP (b.map fMove))) = some (Wd b) := by
      show P_board_winner _ = _
      rw [hV.winner, wd_id symMove]
    rw [h1, h2]
    simp [pB2, pAnd]
theorem right_ok : FnRight 30 F_law_right := fun n S k o hS hP hk => by
  obtain ⟨r, s', o', h1, ⟨rfl, h2⟩, h3⟩ := T_law_right S n (k, .dead) o _ hS hP (right_go k hk)
  exact ⟨o', h1, h3.mono h2⟩
end K52

set_option Elab.async false
set_option linter.all false
set_option maxRecDepth 100000
set_option autoImplicit false
noncomputable section
namespace K52
open PySem PySem.Spec PyProof.Rows L2 DL
set_option maxHeartbeats 0
theorem run (w : World) : HandSHeadRun.RunEq R (PySem.W.view R.prog [lawPlace]) hk ob 4000 (names) w := by
  intro os
  kernel_rfl
end K52
open PySem PySem.W PySem.Calls PyProof.Rows
theorem K52.holds (hm : ∀ ns : List Int, ns.length ≤ 63 → ∃ S', K52.F_law [.sc ns] [] = some (.d (.bool true), S')) : PySem.Challenge.rw_whoeverbegins_k52_whole_boards_by_all_la.Holds := by
  w_on; o_law
  refine HandSHeadRun.head_any (r := K52.R) (q := view K52.R.prog [K52.lawPlace]) (H := K52.hk) (ob := K52.ob) (M := 4000) (loose := K52.names) (d := HandSHeadRun.topDef K52.R.prog K52.lawPlace) (kwd := []) K52.ob_eq
    (by kernel_rfl) (fun s => by kernel_rfl) K52.run (by kernel_rfl) (by kernel_rfl) (by kernel_rfl) (by rfl) (by first | assumption | decide +kernel) (by decide +kernel) ⟨rfl, rfl, rfl, rfl, rfl, by decide +kernel⟩ ?hw ?hc
  case hw => w_witness2
  case hc =>
    refine DL.walk_G (l := PySem.Challenge.rw_whoeverbegins_k52_whole_boards_by_all_la) (n := 63) (k := 21) (x := "script") rfl (by decide) (by kernel_rfl) ⟨rfl, by decide, by decide⟩ ?F
    intro w mg fa h Y G hmg0
    obtain ⟨K, KX, c⟩ := Y
    have hmg : mg ("law" : PySem.Str) = some (.ref fa) := by
      have e : (HandSHeadRun.topDef K52.R.prog K52.lawPlace).name = ("law" : PySem.Str) := by kernel_rfl
      rw [← e]
      exact hmg0
    obtain ⟨fd, hb, hF⟩ := K52.facts (P := (PySem.Challenge.rw_whoeverbegins_k52_whole_boards_by_all_la).prog) (w := w) KX G hmg c rfl
    exact ⟨K, fd, K52.F_law, KX, hb, hm, fun base _ _ => hF base⟩

set_option Elab.async false
set_option linter.all false
set_option maxRecDepth 100000
set_option autoImplicit false
theorem K52.boards_by_all_lays : PySem.Challenge.rw_whoeverbegins_k52_whole_boards_by_all_la.Holds :=
  K52.holds fun ns _ => K52.law_of K52.right_ok (by decide) (by decide) ns

theorem PySem.Challenge.cw_whoeverbegins_k52_whole_boards_by_all_la_holds : PySem.Challenge.rw_whoeverbegins_k52_whole_boards_by_all_la.Holds := by
  exact K52.boards_by_all_lays
