import PyProof.Rows.All
import Wide.All
import OpenK.AllK
import Wide.FinOn
import HandS.ForMost
import HandS.Style
import HandS.Wide
import HandS.TupAny
import HandS.Deep
import HandS.Zip
import HandS.Conv
import HandS.Defaults
import HandS.IsInst
import KE.KTupSum
import KE.KStateDown
import Lean
import HandS.NoneIn
import HandS.Iter
import HandS.Head0
import HandS.Head1
import HandS.Head2
import HandS.HeadEnd
import HandS.HeadHook1
import HandS.HeadHook2
import HandS.TupSets
import KE.SortData
import KE.KDictCopyH
import PyProof.TupleOfSeq
import HandS.Star
import HandS.Text
import HandS.HeadHook3
import HandS.HeadHook4
import PySem.Challenge.RW_whoeverbegins_k74_whole_two_heaps_and_eu
set_option Elab.async false
set_option linter.all false
set_option maxRecDepth 100000
set_option autoImplicit false
/-! The data layer, 1: values as data, a store of mutable objects, how they lie in the abstract heap. -/
noncomputable section
namespace DL
open PySem PySem.Spec PyProof.Rows L2

/-- a proposition as a Bool that nothing evaluates: a bound must never be computed by the kernel -/
def says (p : Prop) : Bool := @decide p (Classical.propDecidable p)
theorem says_iff {p : Prop} : says p = true ↔ p := by unfold says; exact @decide_eq_true_iff p (Classical.propDecidable p)
theorem says_true {p : Prop} (h : p) : says p = true := says_iff.mpr h
theorem says_of {p : Prop} (h : says p = true) : p := says_iff.mp h
abbrev D := PyData
/-- what a name may hold: data that nobody changes; the n-th mutable object; a constant tuple of the top; the script; a raw value; a dict that nobody changes any more -/
inductive W where
  | d (x : D) | loc (n : Nat) | ct (xs : List D) | sc (ns : List Int) | v (x : V) | kd (b : Bool) (kvs : List (Key × D)) | td (b : Bool) (kvs : List (List Key × D))
inductive O where
  | lst (xs : List D) | dK (kvs : List (Key × D)) | dT (kvs : List (List Key × D)) | dead
abbrev Sto := List O
/-- where the mutable objects lie; what else no data may lie at -/
structure Rho where
  l : List (Option Addr)
  b : List Addr
def Rho.Fr (ρ : Rho) (a : Addr) : Prop := some a ∉ ρ.l ∧ a ∉ ρ.b
def Rho.add (ρ : Rho) (p : Addr) : Rho := ⟨ρ.l ++ [some p], ρ.b⟩
def Rho.kill (ρ : Rho) (i : Nat) : Rho := ⟨ρ.l.set i none, ρ.b⟩
def Rho.cut (ρ : Rho) (n : Nat) : Rho := ⟨ρ.l.take n, ρ.b⟩
def Rho.pick (ρ : Rho) (n k : Nat) : Rho := ⟨ρ.l.take n ++ (ρ.l[k]?).toList, ρ.b⟩
def Rho.block (ρ : Rho) (a : Addr) : Rho := ⟨ρ.l, a :: ρ.b⟩
abbrev Env := List (Option W)

mutual
inductive Rep (ρ : Rho) (H : Hp) : D → V → Prop
  | non : Rep ρ H .none .non
  | bl (b : Bool) : Rep ρ H (.bool b) (.bl b)
  | int (i : Int) : Rep ρ H (.int i) (.int i)
  | str (x : Str) : Rep ρ H (.str x) (.str x)
  | tup {a : Addr} {ds : List D} {vs : List V} : H a = some (.tup vs) → ρ.Fr a → RepL ρ H ds vs → Rep ρ H (.tuple ds) (.ref a)
  | lst {a : Addr} {ds : List D} {vs : List V} : H a = some (.lst vs) → ρ.Fr a → RepL ρ H ds vs → Rep ρ H (.list ds) (.ref a)
inductive RepL (ρ : Rho) (H : Hp) : List D → List V → Prop
  | nil : RepL ρ H [] []
  | cons {d : D} {v : V} {ds : List D} {vs : List V} : Rep ρ H d v → RepL ρ H ds vs → RepL ρ H (d :: ds) (v :: vs)
end

/-- flat data -/
inductive Flat : D → V → Prop
  | non : Flat .none .non
  | bl (b : Bool) : Flat (.bool b) (.bl b)
  | int (i : Int) : Flat (.int i) (.int i)
  | str (x : Str) : Flat (.str x) (.str x)
theorem Flat.rep {ρ : Rho} {H : Hp} {d : D} {v : V} (f : Flat d v) : Rep ρ H d v := by
  cases f
  · exact .non
  · exact .bl _
  · exact .int _
  · exact .str _
inductive FlatL : List D → List V → Prop
  | nil : FlatL [] []
  | cons {d : D} {v : V} {ds : List D} {vs : List V} : Flat d v → FlatL ds vs → FlatL (d :: ds) (v :: vs)
theorem FlatL.rep {ρ : Rho} {H : Hp} {ds : List D} {vs : List V} (f : FlatL ds vs) : RepL ρ H ds vs := by
  induction f with
  | nil => exact .nil
  | cons a _ ih => exact .cons a.rep ih

/-- an object of the written part, a list -/
def KL (K : PySem.W.Frag) (a : Addr) (xs : List V) : Prop :=
  ∃ (o : Obj) (its : Array Value) (n : Nat), K.lookup a = some o ∧ o.cls = .type "list" ∧ o.dict = none ∧ o.data = .seq its n ∧ its.size ≤ sizeLine ∧ Vals xs its.toList

inductive RepKV {κ : Type} (ρ : Rho) (H : Hp) : List (κ × D) → List (κ × V) → Prop
  | nil : RepKV ρ H [] []
  | cons {k : κ} {d : D} {v : V} {r : List (κ × D)} {s : List (κ × V)} : Rep ρ H d v → RepKV ρ H r s → RepKV ρ H ((k, d) :: r) ((k, v) :: s)

def RelW (K : PySem.W.Frag) (ρ : Rho) (H : Hp) : W → V → Prop
  | .d x, v => Rep ρ H x v
  | .loc i, v => i < ρ.l.length ∧ ∀ a, ρ.l[i]? = some (some a) → v = .ref a
  | .ct xs, v => ∃ a vs, v = .ref a ∧ (∀ H', SqT K H' a vs) ∧ FlatL xs vs
  | .sc ns, v => ∃ a, v = .ref a ∧ ((∃ o, H a = some (.frz o (.lst (ns.map V.int))) ∧ ρ.Fr a) ∨ KL K a (ns.map V.int))
  | .v x, v => v = x
  | .kd b kvs, v => ∃ a us, v = .ref a ∧ ρ.Fr a ∧ Rd H a (.dK us) ∧ (b = true → ∃ o, H a = some (.frz o (.dK us))) ∧ RepKV ρ H kvs us
  | .td b kvs, v => ∃ a us, v = .ref a ∧ ρ.Fr a ∧ Rd H a (.dT us) ∧ (b = true → ∃ o, H a = some (.frz o (.dT us))) ∧ RepKV ρ H kvs us

structure RelE (K : PySem.W.Frag) (ρ : Rho) (H : Hp) (σd : Env) (σ : L2.St) : Prop where
  len : σd.length = σ.length
  get : ∀ (i : Nat) (w : W), σd[i]? = some (some w) → ∃ v, σ[i]? = some (some v) ∧ RelW K ρ H w v

def ORel (ρ : Rho) (H : Hp) (a : Addr) : O → Prop
  | .lst ds => ∃ vs, H a = some (.lst vs) ∧ RepL ρ H ds vs
  | .dK kvs => ∃ us, H a = some (.dK us) ∧ RepKV ρ H kvs us
  | .dT kvs => ∃ us, H a = some (.dT us) ∧ RepKV ρ H kvs us
  | .dead => False

structure SRel (ρ : Rho) (H : Hp) (S : Sto) : Prop where
  len : ρ.l.length = S.length
  obj : ∀ (i : Nat) (a : Addr), ρ.l[i]? = some (some a) → ∃ o, S[i]? = some o ∧ ORel ρ H a o
  inj : ∀ (i j : Nat) (a : Addr), ρ.l[i]? = some (some a) → ρ.l[j]? = some (some a) → i = j
  live : ∀ (i : Nat) (o : O), S[i]? = some o → o ≠ .dead → ∃ a, ρ.l[i]? = some (some a)
  blk : ∀ a, a ∈ ρ.b → (∃ xs, H a = some (.lst xs)) ∧ some a ∉ ρ.l

/-- what is tracked and not mutable stays; locations stay or die -/
structure Ext (ρ : Rho) (H : Hp) (ρ' : Rho) (H' : Hp) : Prop where
  keep : ∀ (a : Addr) (o : HO), H a = some o → some a ∉ ρ.l → H' a = some o ∧ some a ∉ ρ'.l
  loc : ∀ (i : Nat) (a : Addr), i < ρ.l.length → ρ'.l[i]? = some (some a) → ρ.l[i]? = some (some a)
  len : ρ.l.length ≤ ρ'.l.length
  dom : ∀ a : Addr, H' a = none → H a = none
  bnew : ∀ a, a ∈ ρ'.b → a ∈ ρ.b ∨ H a = none
  bsub : ∀ a, a ∈ ρ.b → a ∈ ρ'.b

variable {K : PySem.W.Frag} {ρ ρ' ρ'' : Rho} {H H' H'' : Hp} {S S' : Sto}

theorem Ext.refl : Ext ρ H ρ H := ⟨fun _ _ h n => ⟨h, n⟩, fun _ _ _ h => h, Nat.le_refl _, fun _ h => h, fun _ h => .inl h, fun _ h => h⟩
theorem Ext.trans (e : Ext ρ H ρ' H') (f : Ext ρ' H' ρ'' H'') : Ext ρ H ρ'' H'' :=
  ⟨fun a o h n => let ⟨h1, n1⟩ := e.keep a o h n; f.keep a o h1 n1, fun i a hi h => e.loc i a hi (f.loc i a (Nat.lt_of_lt_of_le hi e.len) h), Nat.le_trans e.len f.len, fun a h => e.dom a (f.dom a h), fun a h => (f.bnew a h).elim (e.bnew a) fun z => .inr (e.dom a z), fun a h => f.bsub a (e.bsub a h)⟩
theorem Ext.at (e : Ext ρ H ρ' H') {a : Addr} {o : HO} (h : H a = some o) (n : ρ.Fr a) : H' a = some o ∧ ρ'.Fr a :=
  ⟨(e.keep a o h n.1).1, (e.keep a o h n.1).2, fun z => (e.bnew a z).elim n.2 fun q => by rw [h] at q; cases q⟩

mutual
theorem Rep.ext (e : Ext ρ H ρ' H') : ∀ {d : D} {v : V}, Rep ρ H d v → Rep ρ' H' d v
  | _, _, .non => .non
  | _, _, .bl b => .bl b
  | _, _, .int i => .int i
  | _, _, .str x => .str x
  | _, _, .tup h n r => .tup (e.at h n).1 (e.at h n).2 (RepL.ext e r)
  | _, _, .lst h n r => .lst (e.at h n).1 (e.at h n).2 (RepL.ext e r)
theorem RepL.ext (e : Ext ρ H ρ' H') : ∀ {ds : List D} {vs : List V}, RepL ρ H ds vs → RepL ρ' H' ds vs
  | _, _, .nil => .nil
  | _, _, .cons r t => .cons (Rep.ext e r) (RepL.ext e t)
end
theorem RepKV.ext {κ : Type} (e : Ext ρ H ρ' H') {kvs : List (κ × D)} {us : List (κ × V)} (h : RepKV ρ H kvs us) : RepKV ρ' H' kvs us := by
  induction h with
  | nil => exact .nil
  | cons r _ ih => exact .cons (r.ext e) ih
theorem Ext.rd (e : Ext ρ H ρ' H') {a : Addr} {u : HO} (h : Rd H a u) (n : ρ.Fr a) : Rd H' a u ∧ ρ'.Fr a := by
  rcases h with h | ⟨o, h⟩
  · exact ⟨.inl (e.at h n).1, (e.at h n).2⟩
  · exact ⟨.inr ⟨o, (e.at h n).1⟩, (e.at h n).2⟩
theorem RelW.ext (e : Ext ρ H ρ' H') : ∀ {w : W} {v : V}, RelW K ρ H w v → RelW K ρ' H' w v
  | .d _, _, h => Rep.ext e h
  | .loc i, _, ⟨h1, h2⟩ => ⟨Nat.lt_of_lt_of_le h1 e.len, fun a ha => h2 a (e.loc i a h1 ha)⟩
  | .ct _, _, h => h
  | .sc _, _, ⟨a, e1, h⟩ => ⟨a, e1, h.imp (fun ⟨o, h1, h2⟩ => ⟨o, e.at h1 h2⟩) id⟩
  | .v _, _, h => h
  | .kd _ _, _, ⟨a, us, e1, n, h1, hb, h2⟩ => ⟨a, us, e1, (e.rd h1 n).2, (e.rd h1 n).1, fun z => (hb z).imp fun o q => (e.at q n).1, h2.ext e⟩
  | .td _ _, _, ⟨a, us, e1, n, h1, hb, h2⟩ => ⟨a, us, e1, (e.rd h1 n).2, (e.rd h1 n).1, fun z => (hb z).imp fun o q => (e.at q n).1, h2.ext e⟩
theorem RelE.ext {σd : Env} {σ : L2.St} (e : Ext ρ H ρ' H') (h : RelE K ρ H σd σ) : RelE K ρ' H' σd σ :=
  ⟨h.len, fun i w hi => let ⟨v, h1, h2⟩ := h.get i w hi; ⟨v, h1, h2.ext e⟩⟩

/-! lists of data -/
theorem RepL.length {ds : List D} {vs : List V} (h : RepL ρ H ds vs) : ds.length = vs.length := by
  induction ds generalizing vs with
  | nil => cases h; rfl
  | cons d ds ih => cases h with | cons _ t => simp [ih t]
theorem RepL.get {ds : List D} {vs : List V} (h : RepL ρ H ds vs) {i : Nat} {d : D} (e : ds[i]? = some d) : ∃ v, vs[i]? = some v ∧ Rep ρ H d v := by
  induction ds generalizing vs i with
  | nil => simp at e
  | cons x ds ih =>
    cases h with
    | cons r t =>
      cases i with
      | zero => simp at e; subst e; exact ⟨_, rfl, r⟩
      | succ i => simp at e; simpa using ih t e
theorem RepL.getV {ds : List D} {vs : List V} (h : RepL ρ H ds vs) {i : Nat} {v : V} (e : vs[i]? = some v) : ∃ d, ds[i]? = some d ∧ Rep ρ H d v := by
  induction ds generalizing vs i with
  | nil => cases h; simp at e
  | cons x ds ih =>
    cases h with
    | cons r t =>
      cases i with
      | zero => simp at e; subst e; exact ⟨_, rfl, r⟩
      | succ i => simp at e; simpa using ih t e
theorem RepL.append {ds es : List D} {vs us : List V} (h : RepL ρ H ds vs) (g : RepL ρ H es us) : RepL ρ H (ds ++ es) (vs ++ us) := by
  induction ds generalizing vs with
  | nil => cases h; exact g
  | cons d ds ih => cases h with | cons r t => exact .cons r (ih t)
theorem RepL.take {ds : List D} {vs : List V} (n : Nat) (h : RepL ρ H ds vs) : RepL ρ H (ds.take n) (vs.take n) := by
  induction ds generalizing vs n with
  | nil => cases h; simp; exact .nil
  | cons d ds ih =>
    cases h with
    | cons r t =>
      cases n with
      | zero => exact .nil
      | succ n => exact .cons r (ih n t)
theorem RepL.drop {ds : List D} {vs : List V} (n : Nat) (h : RepL ρ H ds vs) : RepL ρ H (ds.drop n) (vs.drop n) := by
  induction ds generalizing vs n with
  | nil => cases h; simp; exact .nil
  | cons d ds ih =>
    cases h with
    | cons r t =>
      cases n with
      | zero => exact .cons r t
      | succ n => exact ih n t
theorem RepL.reverse {ds : List D} {vs : List V} (h : RepL ρ H ds vs) : RepL ρ H ds.reverse vs.reverse := by
  induction ds generalizing vs with
  | nil => cases h; exact .nil
  | cons d ds ih =>
    cases h with
    | cons r t =>
      rw [List.reverse_cons, List.reverse_cons]
      exact (ih t).append (.cons r .nil)
theorem RepL.set {ds : List D} {vs : List V} (n : Nat) {d : D} {v : V} (h : RepL ρ H ds vs) (r0 : Rep ρ H d v) : RepL ρ H (ds.set n d) (vs.set n v) := by
  induction ds generalizing vs n with
  | nil => cases h; exact .nil
  | cons d ds ih =>
    cases h with
    | cons r t =>
      cases n with
      | zero => exact .cons r0 t
      | succ n => exact .cons r (ih n t)
theorem RepL.ints {ns : List Int} {vs : List V} (h : RepL ρ H (ns.map PyData.int) vs) : vs = ns.map V.int := by
  induction ns generalizing vs with
  | nil => cases h; rfl
  | cons n ns ih =>
    cases h with
    | cons r t => cases r; rw [ih t]; rfl
theorem RepL.bools {ns : List Bool} {vs : List V} (h : RepL ρ H (ns.map PyData.bool) vs) : vs = ns.map V.bl := by
  induction ns generalizing vs with
  | nil => cases h; rfl
  | cons n ns ih =>
    cases h with
    | cons r t => cases r; rw [ih t]; rfl
theorem RepL.ofInts : ∀ ns : List Int, RepL ρ H (ns.map PyData.int) (ns.map V.int)
  | [] => .nil
  | n :: ns => .cons (.int n) (RepL.ofInts ns)

/-! the heap grows -/
def Gr (H H' : Hp) : Prop := ∀ a o, H a = some o → H' a = some o
theorem Gr.refl : Gr H H := fun _ _ h => h
theorem Gr.trans (h : Gr H H') (g : Gr H' H'') : Gr H H'' := fun a o e => g a o (h a o e)
theorem Gr.new {p : Addr} {o : HO} (h : H p = none) : Gr H (upd H p o) := fun a u e => by
  rw [upd_ne (ne_of_none e h)]; exact e
theorem SRel.mem (s : SRel ρ H S) {a : Addr} (h : some a ∈ ρ.l) : ∃ o, H a = some o := by
  obtain ⟨i, e⟩ := List.mem_iff_getElem?.mp h
  obtain ⟨o, _, r⟩ := s.obj i a e
  cases o with
  | lst ds => obtain ⟨vs, h1, _⟩ := r; exact ⟨_, h1⟩
  | dK ds => obtain ⟨vs, h1, _⟩ := r; exact ⟨_, h1⟩
  | dT ds => obtain ⟨vs, h1, _⟩ := r; exact ⟨_, h1⟩
  | dead => exact r.elim
theorem SRel.freshl (s : SRel ρ H S) {p : Addr} (h : H p = none) : some p ∉ ρ.l := fun z => by
  obtain ⟨o, e⟩ := s.mem z
  rw [h] at e; cases e
theorem SRel.freshb (s : SRel ρ H S) {p : Addr} (h : H p = none) : p ∉ ρ.b := fun z => by
  obtain ⟨o, e⟩ := (s.blk p z).1
  rw [h] at e; cases e
theorem SRel.fresh (s : SRel ρ H S) {p : Addr} (h : H p = none) : ρ.Fr p := ⟨s.freshl h, s.freshb h⟩
theorem none_of_gr (g : Gr H H') (a : Addr) (h : H' a = none) : H a = none := by
  cases e : H a with
  | none => rfl
  | some o => rw [g a o e] at h; cases h
theorem none_of_upd {p : Addr} {o : HO} (a : Addr) (h : upd H p o a = none) : H a = none := by
  by_cases e : a = p
  · subst e; rw [upd_same] at h; cases h
  · rwa [upd_ne e] at h
theorem Ext.gr (g : Gr H H') : Ext ρ H ρ H' := ⟨fun a o h n => ⟨g a o h, n⟩, fun _ _ _ h => h, Nat.le_refl _, none_of_gr g, fun _ h => .inl h, fun _ h => h⟩
theorem ORel.gr (g : Gr H H') {a : Addr} : ∀ {o : O}, ORel ρ H a o → ORel ρ H' a o
  | .lst _, ⟨vs, h, r⟩ => ⟨vs, g _ _ h, r.ext (Ext.gr g)⟩
  | .dK _, ⟨vs, h, r⟩ => ⟨vs, g _ _ h, r.ext (Ext.gr g)⟩
  | .dT _, ⟨vs, h, r⟩ => ⟨vs, g _ _ h, r.ext (Ext.gr g)⟩
  | .dead, h => h
theorem SRel.gr (g : Gr H H') (s : SRel ρ H S) : SRel ρ H' S :=
  ⟨s.len, fun i a e => let ⟨o, h1, h2⟩ := s.obj i a e; ⟨o, h1, h2.gr g⟩, s.inj, s.live, fun a h => ⟨let ⟨o, e⟩ := (s.blk a h).1; ⟨o, g a _ e⟩, (s.blk a h).2⟩⟩
theorem Ext.new {p : Addr} {o : HO} (h : H p = none) : Ext ρ H ρ (upd H p o) := Ext.gr (Gr.new h)
theorem SRel.new {p : Addr} {o : HO} (s : SRel ρ H S) (h : H p = none) : SRel ρ (upd H p o) S := s.gr (Gr.new h)

/-- the shape of a mutable object over other addresses -/
theorem ORel.ext (e : Ext ρ H ρ' H') {a : Addr} (h : H' a = H a) : ∀ {o : O}, ORel ρ H a o → ORel ρ' H' a o
  | .lst _, ⟨vs, h1, r⟩ => ⟨vs, h.trans h1, r.ext e⟩
  | .dK _, ⟨vs, h1, r⟩ => ⟨vs, h.trans h1, r.ext e⟩
  | .dT _, ⟨vs, h1, r⟩ => ⟨vs, h.trans h1, r.ext e⟩
  | .dead, h1 => h1

/-- a new mutable object -/
theorem add_at {l : List (Option Addr)} {p a : Addr} {k : Nat} (e : (l ++ [some p])[k]? = some (some a)) : k < l.length ∧ l[k]? = some (some a) ∨ k = l.length ∧ a = p := by
  by_cases hk : k < l.length
  · rw [List.getElem?_append_left hk] at e; exact .inl ⟨hk, e⟩
  · rw [List.getElem?_append_right (by omega)] at e
    cases q : k - l.length with
    | zero => rw [q] at e; simp at e; exact .inr ⟨by omega, e.symm⟩
    | succ n => rw [q] at e; simp at e
theorem Ext.alloc {p : Addr} {o : HO} (s : SRel ρ H S) (h : H p = none) : Ext ρ H (ρ.add p) (upd H p o) where
  keep := fun a u e n => by
    have hne : a ≠ p := ne_of_none e h
    refine ⟨by rw [upd_ne hne]; exact e, fun z => ?_⟩
    rcases List.mem_append.mp z with z | z
    · exact n z
    · simp at z; exact hne z
  loc := fun i a hi e => by
    have e' : (ρ.l ++ [some p])[i]? = some (some a) := e
    rwa [List.getElem?_append_left hi] at e'
  len := by simp [Rho.add]
  dom := none_of_upd
  bnew := fun _ h => .inl h
  bsub := fun _ h => h
theorem SRel.alloc {p : Addr} {ho : HO} {o : O} (s : SRel ρ H S) (h : H p = none) (r : ORel (ρ.add p) (upd H p ho) p o) : SRel (ρ.add p) (upd H p ho) (S ++ [o]) where
  len := by simp [s.len, Rho.add]
  obj := fun i a e => by
    rcases add_at e with ⟨hi, e'⟩ | ⟨hi, rfl⟩
    · obtain ⟨u, h1, h2⟩ := s.obj i a e'
      refine ⟨u, by rw [List.getElem?_append_left (by rw [← s.len]; exact hi)]; exact h1, ?_⟩
      have hne : a ≠ p := fun z => s.freshl h (z ▸ List.mem_of_getElem? e')
      exact h2.ext (Ext.alloc s h) (upd_ne hne)
    · refine ⟨o, ?_, r⟩
      rw [hi, s.len, List.getElem?_append_right (Nat.le_refl _)]
      simp
  inj := fun i j a e1 e2 => by
    rcases add_at e1 with ⟨h1, q1⟩ | ⟨h1, q1⟩ <;> rcases add_at e2 with ⟨h2, q2⟩ | ⟨h2, q2⟩
    · exact s.inj i j a q1 q2
    · subst q2; exact absurd (List.mem_of_getElem? q1) (s.freshl h)
    · subst q1; exact absurd (List.mem_of_getElem? q2) (s.freshl h)
    · omega
  live := fun i u e hu => by
    by_cases hi : i < S.length
    · rw [List.getElem?_append_left hi] at e
      obtain ⟨a, q⟩ := s.live i u e hu
      refine ⟨a, ?_⟩
      show (ρ.l ++ [some p])[i]? = _
      rw [List.getElem?_append_left (by rw [s.len]; exact hi)]
      exact q
    · rw [List.getElem?_append_right (by omega)] at e
      have : i - S.length = 0 := by
        cases q : i - S.length with
        | zero => rfl
        | succ n => rw [q] at e; simp at e
      refine ⟨p, ?_⟩
      show (ρ.l ++ [some p])[i]? = _
      rw [List.getElem?_append_right (by rw [s.len]; omega), s.len, this]
      rfl
  blk := fun a ha => by
    obtain ⟨⟨u, e⟩, n⟩ := s.blk a ha
    have hne : a ≠ p := ne_of_none e h
    refine ⟨⟨u, by rw [upd_ne hne]; exact e⟩, fun z => ?_⟩
    rcases List.mem_append.mp z with z | z
    · exact n z
    · simp at z; exact hne z

/-- a mutable object written -/
theorem Ext.write {a : Addr} {ho : HO} (h : some a ∈ ρ.l) : Ext ρ H ρ (upd H a ho) where
  keep := fun b u e n => by
    have hne : b ≠ a := fun z => n (z ▸ h)
    exact ⟨by rw [upd_ne hne]; exact e, n⟩
  loc := fun _ _ _ e => e
  len := Nat.le_refl _
  dom := none_of_upd
  bnew := fun _ h => .inl h
  bsub := fun _ h => h
theorem SRel.write {i : Nat} {a : Addr} {ho : HO} {o : O} (s : SRel ρ H S) (hi : ρ.l[i]? = some (some a)) (r : ORel ρ (upd H a ho) a o) : SRel ρ (upd H a ho) (S.set i o) where
  len := by simp [s.len]
  obj := fun j b e => by
    by_cases hj : j = i
    · subst hj
      rw [hi] at e; cases e
      have hlt : j < S.length := by rw [← s.len]; exact (List.getElem?_eq_some_iff.mp hi).1
      exact ⟨o, by rw [List.getElem?_set_self hlt], r⟩
    · obtain ⟨u, h1, h2⟩ := s.obj j b e
      have hne : b ≠ a := fun z => hj (s.inj j i b e (z ▸ hi))
      refine ⟨u, by rw [List.getElem?_set_ne (Ne.symm hj)]; exact h1, h2.ext (Ext.write (List.mem_of_getElem? hi)) (upd_ne hne)⟩
  inj := s.inj
  live := fun j u e hu => by
    by_cases hj : j = i
    · subst hj; exact ⟨a, hi⟩
    · rw [List.getElem?_set_ne (Ne.symm hj)] at e
      exact s.live j u e hu
  blk := fun b hb => by
    obtain ⟨⟨u, e⟩, n⟩ := s.blk b hb
    have hne : b ≠ a := fun z => n (z ▸ List.mem_of_getElem? hi)
    exact ⟨⟨u, by rw [upd_ne hne]; exact e⟩, n⟩

/-- a mutable list is frozen -/
theorem mem_kill {l : List (Option Addr)} {i : Nat} {b : Addr} (z : some b ∈ l.set i none) : some b ∈ l := by
  obtain ⟨j, hj⟩ := List.mem_iff_getElem?.mp z
  rw [List.getElem?_set] at hj
  split at hj
  · split at hj <;> cases hj
  · exact List.mem_of_getElem? hj
theorem kill_at {l : List (Option Addr)} {i j : Nat} {b : Addr} (e : (l.set i none)[j]? = some (some b)) : i ≠ j ∧ l[j]? = some (some b) := by
  rw [List.getElem?_set] at e
  split at e
  · split at e <;> cases e
  · rename_i h; exact ⟨h, e⟩
theorem Ext.freeze {i : Nat} : Ext ρ H (ρ.kill i) H where
  keep := fun b u e n => ⟨e, fun z => n (mem_kill z)⟩
  loc := fun j b _ e => (kill_at e).2
  len := by simp [Rho.kill]
  dom := fun _ h => h
  bnew := fun _ h => .inl h
  bsub := fun _ h => h
theorem SRel.freeze {i : Nat} (s : SRel ρ H S) : SRel (ρ.kill i) H (S.set i .dead) where
  len := by simp [s.len, Rho.kill]
  obj := fun j b e => by
    obtain ⟨hj, e'⟩ := kill_at e
    obtain ⟨u, h1, h2⟩ := s.obj j b e'
    exact ⟨u, by rw [List.getElem?_set_ne hj]; exact h1, h2.ext Ext.freeze rfl⟩
  inj := fun j k b e1 e2 => s.inj j k b (kill_at e1).2 (kill_at e2).2
  live := fun j u e hu => by
    rw [List.getElem?_set] at e
    split at e
    · split at e
      · cases e; exact absurd rfl hu
      · cases e
    · rename_i hj
      obtain ⟨a, q⟩ := s.live j u e hu
      refine ⟨a, ?_⟩
      show (ρ.l.set i none)[j]? = _
      rw [List.getElem?_set_ne hj]
      exact q
  blk := fun b hb => ⟨(s.blk b hb).1, fun z => (s.blk b hb).2 (mem_kill z)⟩
theorem SRel.notin {i : Nat} {a : Addr} (s : SRel ρ H S) (hi : ρ.l[i]? = some (some a)) : (ρ.kill i).Fr a := ⟨fun z => by
  obtain ⟨j, hj⟩ := List.mem_iff_getElem?.mp z
  obtain ⟨h1, h2⟩ := kill_at hj
  exact h1 (s.inj i j a hi h2), fun z => (s.blk a z).2 (List.mem_of_getElem? hi)⟩

/-- data over fewer, over other blocked addresses -/
theorem Rep.sub {ρ' : Rho} (hk : ∀ a, ρ.Fr a → ρ'.Fr a) {d : D} {v : V} (r : Rep ρ H d v) : Rep ρ' H d v :=
  Rep.rec (motive_1 := fun d v _ => Rep ρ' H d v) (motive_2 := fun ds vs _ => RepL ρ' H ds vs) .non .bl .int .str
      (fun h n _ ih => .tup h (hk _ n) ih) (fun h n _ ih => .lst h (hk _ n) ih) .nil (fun _ _ h1 h2 => .cons h1 h2) r
theorem RepL.sub {ρ' : Rho} (hk : ∀ a, ρ.Fr a → ρ'.Fr a) {ds : List D} {vs : List V} (r : RepL ρ H ds vs) : RepL ρ' H ds vs := by
  induction ds generalizing vs with
  | nil => cases r; exact .nil
  | cons d ds ih => cases r with | cons a b => exact .cons (a.sub hk) (ih b)
theorem RepKV.sub {κ : Type} {ρ' : Rho} (hk : ∀ a, ρ.Fr a → ρ'.Fr a) {kvs : List (κ × D)} {us : List (κ × V)} (h : RepKV ρ H kvs us) : RepKV ρ' H kvs us := by
  induction h with
  | nil => exact .nil
  | cons r _ ih => exact .cons (r.sub hk) ih
theorem ORel.sub {ρ' : Rho} (hk : ∀ a, ρ.Fr a → ρ'.Fr a) {a : Addr} : ∀ {o : O}, ORel ρ H a o → ORel ρ' H a o
  | .lst _, ⟨vs, h1, r⟩ => ⟨vs, h1, r.sub hk⟩
  | .dK _, ⟨vs, h1, r⟩ => ⟨vs, h1, r.sub hk⟩
  | .dT _, ⟨vs, h1, r⟩ => ⟨vs, h1, r.sub hk⟩
  | .dead, h1 => h1
/-- .. where the heap may be another, and what is free may shrink, as long as what stands stays free -/
theorem Rep.mv {ρ' : Rho} (hk : ∀ a o, H a = some o → ρ.Fr a → H' a = some o ∧ ρ'.Fr a) {d : D} {v : V} (r : Rep ρ H d v) : Rep ρ' H' d v :=
  Rep.rec (motive_1 := fun d v _ => Rep ρ' H' d v) (motive_2 := fun ds vs _ => RepL ρ' H' ds vs) .non .bl .int .str
      (fun h n _ ih => .tup (hk _ _ h n).1 (hk _ _ h n).2 ih) (fun h n _ ih => .lst (hk _ _ h n).1 (hk _ _ h n).2 ih) .nil (fun _ _ h1 h2 => .cons h1 h2) r
theorem RepL.mv {ρ' : Rho} (hk : ∀ a o, H a = some o → ρ.Fr a → H' a = some o ∧ ρ'.Fr a) {ds : List D} {vs : List V} (r : RepL ρ H ds vs) : RepL ρ' H' ds vs := by
  induction ds generalizing vs with
  | nil => cases r; exact .nil
  | cons d ds ih => cases r with | cons a b => exact .cons (a.mv hk) (ih b)
theorem RepKV.mv {κ : Type} {ρ' : Rho} (hk : ∀ a o, H a = some o → ρ.Fr a → H' a = some o ∧ ρ'.Fr a) {kvs : List (κ × D)} {us : List (κ × V)} (h : RepKV ρ H kvs us) : RepKV ρ' H' kvs us := by
  induction h with
  | nil => exact .nil
  | cons r _ ih => exact .cons (r.mv hk) ih
theorem ORel.mv {ρ' : Rho} (hk : ∀ a o, H a = some o → ρ.Fr a → H' a = some o ∧ ρ'.Fr a) {a : Addr} (h : H' a = H a) : ∀ {o : O}, ORel ρ H a o → ORel ρ' H' a o
  | .lst _, ⟨vs, h1, r⟩ => ⟨vs, h.trans h1, r.mv hk⟩
  | .dK _, ⟨vs, h1, r⟩ => ⟨vs, h.trans h1, r.mv hk⟩
  | .dT _, ⟨vs, h1, r⟩ => ⟨vs, h.trans h1, r.mv hk⟩
  | .dead, h1 => h1
theorem rd_mv {ρ' : Rho} (hk : ∀ a o, H a = some o → ρ.Fr a → H' a = some o ∧ ρ'.Fr a) {a : Addr} {u : HO} (h : Rd H a u) (n : ρ.Fr a) : Rd H' a u ∧ ρ'.Fr a := by
  rcases h with h | ⟨o, h⟩
  · exact ⟨.inl (hk _ _ h n).1, (hk _ _ h n).2⟩
  · exact ⟨.inr ⟨o, (hk _ _ h n).1⟩, (hk _ _ h n).2⟩
theorem RelW.mv {ρ' : Rho} (hk : ∀ a o, H a = some o → ρ.Fr a → H' a = some o ∧ ρ'.Fr a) (hl : ρ'.l = ρ.l) : ∀ {w : W} {v : V}, RelW K ρ H w v → RelW K ρ' H' w v
  | .d _, _, h => Rep.mv hk h
  | .loc i, _, ⟨h1, h2⟩ => ⟨by rw [hl]; exact h1, fun a ha => h2 a (by rw [← hl]; exact ha)⟩
  | .ct _, _, h => h
  | .sc _, _, ⟨a, e1, h⟩ => ⟨a, e1, h.imp (fun ⟨o, h1, h2⟩ => ⟨o, hk _ _ h1 h2⟩) id⟩
  | .v _, _, h => h
  | .kd _ _, _, ⟨a, us, e1, n, h1, hb, h2⟩ => ⟨a, us, e1, (rd_mv hk h1 n).2, (rd_mv hk h1 n).1, fun z => (hb z).imp fun o q => (hk _ _ q n).1, h2.mv hk⟩
  | .td _ _, _, ⟨a, us, e1, n, h1, hb, h2⟩ => ⟨a, us, e1, (rd_mv hk h1 n).2, (rd_mv hk h1 n).1, fun z => (hb z).imp fun o q => (hk _ _ q n).1, h2.mv hk⟩
theorem RelE.mv {ρ' : Rho} (hk : ∀ a o, H a = some o → ρ.Fr a → H' a = some o ∧ ρ'.Fr a) (hl : ρ'.l = ρ.l) {σd : Env} {σ : L2.St} (h : RelE K ρ H σd σ) : RelE K ρ' H' σd σ :=
  ⟨h.len, fun i w hi => let ⟨v, h1, h2⟩ := h.get i w hi; ⟨v, h1, h2.mv hk hl⟩⟩

/-- an address is blocked: a list that is being made -/
theorem SRel.blocked {p : Addr} {xs : List V} (s : SRel ρ H S) (h : H p = none) : SRel (ρ.block p) (upd H p (.lst xs)) S := by
  have hk : ∀ a u, H a = some u → ρ.Fr a → upd H p (.lst xs) a = some u ∧ (ρ.block p).Fr a := fun a u e n => by
    have hne : a ≠ p := ne_of_none e h
    exact ⟨by rw [upd_ne hne]; exact e, n.1, fun z => by
      rcases List.mem_cons.mp z with z | z
      · exact hne z
      · exact n.2 z⟩
  refine ⟨s.len, fun i a e => ?_, s.inj, s.live, fun a ha => ?_⟩
  · obtain ⟨u, h1, h2⟩ := s.obj i a e
    have hne : a ≠ p := fun z => s.freshl h (z ▸ List.mem_of_getElem? e)
    exact ⟨u, h1, h2.mv hk (upd_ne hne)⟩
  · rcases List.mem_cons.mp ha with rfl | ha
    · exact ⟨⟨xs, upd_same⟩, s.freshl h⟩
    · obtain ⟨⟨u, e⟩, n⟩ := s.blk a ha
      have hne : a ≠ p := ne_of_none e h
      exact ⟨⟨u, by rw [upd_ne hne]; exact e⟩, n⟩
theorem block_mv {p : Addr} {o : HO} (h : H p = none) : ∀ a u, H a = some u → ρ.Fr a → upd H p o a = some u ∧ (ρ.block p).Fr a := fun a u e n => by
  have hne : a ≠ p := ne_of_none e h
  exact ⟨by rw [upd_ne hne]; exact e, n.1, fun z => by
    rcases List.mem_cons.mp z with z | z
    · exact hne z
    · exact n.2 z⟩
/-- what is blocked may be written -/
theorem blk_mv {p : Addr} {o : HO} (h : p ∈ ρ.b) : ∀ a u, H a = some u → ρ.Fr a → upd H p o a = some u ∧ ρ.Fr a := fun a u e n => by
  have hne : a ≠ p := fun z => n.2 (z ▸ h)
  exact ⟨by rw [upd_ne hne]; exact e, n⟩
theorem SRel.blkW {p : Addr} {xs : List V} (s : SRel ρ H S) (h : p ∈ ρ.b) : SRel ρ (upd H p (.lst xs)) S := by
  refine ⟨s.len, fun i a e => ?_, s.inj, s.live, fun a ha => ?_⟩
  · obtain ⟨u, h1, h2⟩ := s.obj i a e
    have hne : a ≠ p := fun z => (s.blk p h).2 (z ▸ List.mem_of_getElem? e)
    exact ⟨u, h1, h2.mv (blk_mv h) (upd_ne hne)⟩
  · by_cases hne : a = p
    · subst hne; exact ⟨⟨xs, upd_same⟩, (s.blk a ha).2⟩
    · obtain ⟨⟨u, e⟩, n⟩ := s.blk a ha
      exact ⟨⟨u, by rw [upd_ne hne]; exact e⟩, n⟩
/-- .. and let go -/
theorem unblock_fr {b : List Addr} (hb : ∀ a, a ∈ b → a ∈ ρ.b) : ∀ a, ρ.Fr a → Rho.Fr ⟨ρ.l, b⟩ a := fun a n => ⟨n.1, fun z => n.2 (hb a z)⟩
theorem SRel.unblock {b : List Addr} (s : SRel ρ H S) (hb : ∀ a, a ∈ b → a ∈ ρ.b) : SRel ⟨ρ.l, b⟩ H S :=
  ⟨s.len, fun i a e => let ⟨o, h1, h2⟩ := s.obj i a e; ⟨o, h1, ORel.sub (unblock_fr hb) h2⟩, s.inj, s.live, fun a ha => s.blk a (hb a ha)⟩

/-- the locations from n on are forgotten -/
theorem Ext.cut {n : Nat} (e : Ext ρ H ρ' H') (hn : ρ.l.length ≤ n) : Ext ρ H (ρ'.cut n) H' where
  keep := fun a o h k => ⟨(e.keep a o h k).1, fun z => (e.keep a o h k).2 (List.mem_of_mem_take z)⟩
  loc := fun i a hi q => by
    have q' : (ρ'.l.take n)[i]? = some (some a) := q
    rw [List.getElem?_take_of_lt (by omega)] at q'
    exact e.loc i a hi q'
  len := by
    show _ ≤ (ρ'.l.take n).length
    rw [List.length_take]
    have := e.len
    omega
  dom := e.dom
  bnew := e.bnew
  bsub := e.bsub
theorem SRel.cut {n : Nat} (s : SRel ρ H S) : SRel (ρ.cut n) H (S.take n) where
  len := by simp [s.len, Rho.cut]
  obj := fun i a e => by
    have e' : (ρ.l.take n)[i]? = some (some a) := e
    rw [List.getElem?_take] at e'
    split at e'
    · rename_i hi
      obtain ⟨o, h1, h2⟩ := s.obj i a e'
      exact ⟨o, by rw [List.getElem?_take_of_lt hi]; exact h1, h2.sub (ρ' := ρ.cut n) fun a h => ⟨fun z => h.1 (List.mem_of_mem_take z), h.2⟩⟩
    · cases e'
  inj := fun i j a e1 e2 => by
    have e1' : (ρ.l.take n)[i]? = some (some a) := e1
    have e2' : (ρ.l.take n)[j]? = some (some a) := e2
    rw [List.getElem?_take] at e1' e2'
    split at e1'
    · split at e2'
      · exact s.inj i j a e1' e2'
      · cases e2'
    · cases e1'
  live := fun i o e ho => by
    rw [List.getElem?_take] at e
    split at e
    · rename_i hi
      obtain ⟨a, q⟩ := s.live i o e ho
      refine ⟨a, ?_⟩
      show (ρ.l.take n)[i]? = _
      rw [List.getElem?_take_of_lt hi]
      exact q
    · cases e
  blk := fun a ha => ⟨(s.blk a ha).1, fun z => (s.blk a ha).2 (List.mem_of_mem_take z)⟩
/-- .. but the k-th, which comes to the place n -/
theorem mem_pick {l : List (Option Addr)} {n k : Nat} {x : Option Addr} (h : x ∈ l.take n ++ (l[k]?).toList) : x ∈ l := by
  rcases List.mem_append.mp h with h | h
  · exact List.mem_of_mem_take h
  · cases e : l[k]? with
    | none => rw [e] at h; simp at h
    | some y => rw [e] at h; simp at h; subst h; exact List.mem_of_getElem? e
theorem pick_at {α : Type} {l : List α} {n k : Nat} (hn : n ≤ k) (hk : k < l.length) {i : Nat} {x : α} (h : (l.take n ++ (l[k]?).toList)[i]? = some x) : (i < n ∧ l[i]? = some x) ∨ (i = n ∧ l[k]? = some x) := by
  have hl : (l.take n).length = n := by rw [List.length_take]; omega
  by_cases hi : i < n
  · rw [List.getElem?_append_left (by omega), List.getElem?_take_of_lt hi] at h
    exact .inl ⟨hi, h⟩
  · rw [List.getElem?_append_right (by omega), hl] at h
    obtain ⟨y, e⟩ : ∃ y, l[k]? = some y := ⟨l[k], by simp [hk]⟩
    rw [e] at h
    cases q : i - n with
    | zero => rw [q] at h; simp at h; exact .inr ⟨by omega, by rw [e, h]⟩
    | succ m => rw [q] at h; simp at h
theorem at_pick_lt {α : Type} {l : List α} {n k : Nat} (hn : n ≤ k) (hk : k < l.length) {i : Nat} (hi : i < n) : (l.take n ++ (l[k]?).toList)[i]? = l[i]? := by
  have hl : (l.take n).length = n := by rw [List.length_take]; omega
  rw [List.getElem?_append_left (by omega), List.getElem?_take_of_lt hi]
theorem at_pick {α : Type} {l : List α} {n k : Nat} (hn : n ≤ k) (hk : k < l.length) : (l.take n ++ (l[k]?).toList)[n]? = l[k]? := by
  have hl : (l.take n).length = n := by rw [List.length_take]; omega
  rw [List.getElem?_append_right (by omega), hl]
  obtain ⟨y, e⟩ : ∃ y, l[k]? = some y := ⟨l[k], by simp [hk]⟩
  rw [e]; simp
theorem Ext.pick {n k : Nat} (e : Ext ρ H ρ' H') (hn : ρ.l.length ≤ n) (hnk : n ≤ k) (hk : k < ρ'.l.length) : Ext ρ H (ρ'.pick n k) H' where
  keep := fun a o h q => ⟨(e.keep a o h q).1, fun z => (e.keep a o h q).2 (mem_pick z)⟩
  loc := fun i a hi q => by
    have q' : (ρ'.l.take n ++ (ρ'.l[k]?).toList)[i]? = some (some a) := q
    rw [at_pick_lt hnk hk (by omega)] at q'
    exact e.loc i a hi q'
  len := by
    show _ ≤ (ρ'.l.take n ++ (ρ'.l[k]?).toList).length
    rw [List.length_append, List.length_take]
    omega
  dom := e.dom
  bnew := e.bnew
  bsub := e.bsub
theorem SRel.pick {n k : Nat} (s : SRel ρ H S) (hnk : n ≤ k) (hk : k < ρ.l.length) : SRel (ρ.pick n k) H (S.take n ++ (S[k]?).toList) where
  len := by
    have hk' : k < S.length := by rw [← s.len]; exact hk
    simp [s.len, hk', Rho.pick]
  obj := fun i a e => by
    have hk' : k < S.length := by rw [← s.len]; exact hk
    rcases pick_at hnk hk e with ⟨hi, e'⟩ | ⟨hi, e'⟩
    · obtain ⟨o, h1, h2⟩ := s.obj i a e'
      exact ⟨o, by rw [at_pick_lt hnk hk' hi]; exact h1, h2.sub (ρ' := ρ.pick n k) fun a h => ⟨fun z => h.1 (mem_pick z), h.2⟩⟩
    · subst hi
      obtain ⟨o, h1, h2⟩ := s.obj k a e'
      exact ⟨o, by rw [at_pick hnk hk']; exact h1, h2.sub (ρ' := ρ.pick i k) fun a h => ⟨fun z => h.1 (mem_pick z), h.2⟩⟩
  inj := fun i j a e1 e2 => by
    rcases pick_at hnk hk e1 with ⟨h1, e1⟩ | ⟨h1, e1⟩ <;> rcases pick_at hnk hk e2 with ⟨h2, e2⟩ | ⟨h2, e2⟩
    · exact s.inj i j a e1 e2
    · have := s.inj i k a e1 e2; omega
    · have := s.inj j k a e2 e1; omega
    · omega
  live := fun i o e ho => by
    have hk' : k < S.length := by rw [← s.len]; exact hk
    rcases pick_at hnk hk' e with ⟨hi, e'⟩ | ⟨hi, e'⟩
    · obtain ⟨a, q⟩ := s.live i o e' ho
      refine ⟨a, ?_⟩
      show (ρ.l.take n ++ (ρ.l[k]?).toList)[i]? = _
      rw [at_pick_lt hnk hk hi]
      exact q
    · subst hi
      obtain ⟨a, q⟩ := s.live k o e' ho
      refine ⟨a, ?_⟩
      show (ρ.l.take i ++ (ρ.l[k]?).toList)[i]? = _
      rw [at_pick hnk hk]
      exact q
  blk := fun a ha => ⟨(s.blk a ha).1, fun z => (s.blk a ha).2 (mem_pick z)⟩

/-! reading -/
def asL (S : Sto) : W → Option (List D)
  | .d (.list xs) => some xs
  | .loc i => match S[i]? with
    | some (.lst xs) => some xs
    | _ => none
  | .sc ns => some (ns.map PyData.int)
  | _ => none
@[simp] def asT : W → Option (List D)
  | .d (.tuple xs) => some xs
  | .ct xs => some xs
  | _ => none
theorem asL_rel (s : SRel ρ H S) {w : W} {v : V} {ds : List D} (r : RelW K ρ H w v) (h : asL S w = some ds) : ∃ a vs, v = .ref a ∧ SqL K H a vs ∧ RepL ρ H ds vs := by
  cases w with
  | d x =>
    cases x with
    | list xs =>
      cases h
      cases r with
      | lst h1 _ h3 => exact ⟨_, _, rfl, .inl (.inl h1), h3⟩
    | _ => cases h
  | loc i =>
    simp only [asL] at h
    split at h
    · rename_i xs e
      cases h
      obtain ⟨a, q⟩ := s.live i _ e (by intro z; cases z)
      obtain ⟨o, h1, h2⟩ := s.obj i a q
      rw [e] at h1; cases h1
      obtain ⟨vs, h3, h4⟩ := h2
      exact ⟨a, vs, r.2 a q, .inl (.inl h3), h4⟩
    · cases h
  | sc ns =>
    cases h
    obtain ⟨a, e, h⟩ := r
    refine ⟨a, ns.map V.int, e, ?_, RepL.ofInts ns⟩
    rcases h with ⟨o, h1, _⟩ | h
    · exact .inl (.inr ⟨o, h1⟩)
    · exact .inr h
  | ct _ => cases h
  | kd _ _ => cases h
  | td _ _ => cases h
  | v _ => cases h
theorem asT_rel {w : W} {v : V} {ds : List D} (r : RelW K ρ H w v) (h : asT w = some ds) : ∃ a vs, v = .ref a ∧ SqT K H a vs ∧ RepL ρ H ds vs := by
  cases w with
  | d x =>
    cases x with
    | tuple xs =>
      cases h
      cases r with
      | tup h1 _ h3 => exact ⟨_, _, rfl, .inl (.inl h1), h3⟩
    | _ => cases h
  | ct xs =>
    cases h
    obtain ⟨a, vs, e, h1, h2⟩ := r
    exact ⟨a, vs, e, h1 H, h2.rep⟩
  | _ => cases h
theorem SRel.lst_at (s : SRel ρ H S) {i : Nat} {xs : List D} {v : V} (r : RelW K ρ H (.loc i) v) (h : S[i]? = some (.lst xs)) : ∃ a vs, v = .ref a ∧ ρ.l[i]? = some (some a) ∧ H a = some (.lst vs) ∧ RepL ρ H xs vs := by
  obtain ⟨a, q⟩ := s.live i _ h (by intro z; cases z)
  obtain ⟨o, h1, h2⟩ := s.obj i a q
  rw [h] at h1; cases h1
  obtain ⟨vs, h3, h4⟩ := h2
  exact ⟨a, vs, r.2 a q, q, h3, h4⟩
end DL

set_option Elab.async false
set_option linter.all false
set_option maxRecDepth 100000
set_option autoImplicit false
/-! The data layer, 2: what an expression gives (ME), its canonical reading (tD), the rules. -/
noncomputable section
namespace DL
open PySem PySem.Spec PyProof.Rows L2

abbrev ME := Env → Sto → Option (W × Sto)
abbrev MT := Env → Sto → Option (Bool × Sto)
abbrev MA := Env → Sto → Option (List W × Sto)

def tD (K : PySem.W.Frag) (m : ME) : TE := fun σ H Q => ∃ ρ σd S w S', SRel ρ H S ∧ RelE K ρ H σd σ ∧ m σd S = some (w, S') ∧ ∀ ρ' v H', Ext ρ H ρ' H' → SRel ρ' H' S' → RelW K ρ' H' w v → Q v H'
def tDT (K : PySem.W.Frag) (m : MT) : TT := fun σ H Q => ∃ ρ σd S b S', SRel ρ H S ∧ RelE K ρ H σd σ ∧ m σd S = some (b, S') ∧ ∀ ρ' H', Ext ρ H ρ' H' → SRel ρ' H' S' → Q b H'
inductive RelWs (K : PySem.W.Frag) (ρ : Rho) (H : Hp) : List W → List V → Prop
  | nil : RelWs K ρ H [] []
  | cons {w : W} {v : V} {ws : List W} {vs : List V} : RelW K ρ H w v → RelWs K ρ H ws vs → RelWs K ρ H (w :: ws) (v :: vs)
def tDA (K : PySem.W.Frag) (m : MA) : TA := fun σ H Q => ∃ ρ σd S ws S', SRel ρ H S ∧ RelE K ρ H σd σ ∧ m σd S = some (ws, S') ∧ ∀ ρ' vs H', Ext ρ H ρ' H' → SRel ρ' H' S' → RelWs K ρ' H' ws vs → Q vs H'

section
variable {K : PySem.W.Frag} {ρ ρ' ρ'' : Rho} {H H' H'' : Hp} {S S' : Sto}
theorem RelWs.ext (e : Ext ρ H ρ' H') {ws : List W} {vs : List V} (h : RelWs K ρ H ws vs) : RelWs K ρ' H' ws vs := by
  induction h with
  | nil => exact .nil
  | cons r _ ih => exact .cons (r.ext e) ih
theorem RelWs.length {ws : List W} {vs : List V} (h : RelWs K ρ H ws vs) : ws.length = vs.length := by
  induction h with
  | nil => rfl
  | cons _ _ ih => simp [ih]
theorem RelWs.one {w : W} {vs : List V} (h : RelWs K ρ H [w] vs) : ∃ v, vs = [v] ∧ RelW K ρ H w v := by
  cases h with
  | cons r t => cases t; exact ⟨_, rfl, r⟩
theorem RelWs.two {w u : W} {vs : List V} (h : RelWs K ρ H [w, u] vs) : ∃ v x, vs = [v, x] ∧ RelW K ρ H w v ∧ RelW K ρ H u x := by
  cases h with
  | cons r t =>
    obtain ⟨x, rfl, q⟩ := t.one
    exact ⟨_, _, rfl, r, q⟩
end

section
variable {X : Cx} {e a b c : Expr} {pos : Pos}
theorem peImp {t t' : TE} (h : PE X e t) (i : ∀ σ H Q, t' σ H Q → t σ H Q) : PE X e t' := ⟨fun pins s σ H Q I q => h.run pins s σ H Q I (i σ H Q q)⟩
theorem ptImp {t t' : TT} (h : PT X e t) (i : ∀ σ H Q, t' σ H Q → t σ H Q) : PT X e t' := ⟨fun pins s σ H Q I q => h.run pins s σ H Q I (i σ H Q q)⟩
theorem paImp {es : List Expr} {t t' : TA} (h : PA X es t) (i : ∀ σ H Q, t' σ H Q → t σ H Q) : PA X es t' := ⟨fun pos pins s σ H Q I q => h.run pos pins s σ H Q I (i σ H Q q)⟩
theorem psImp {st : Stmt} {t t' : TS} (h : PS X st t) (i : ∀ D σ H, t' D σ H → t D σ H) : PS X st t' := ⟨fun pins s σ H D I q => h.run pins s σ H D I (i D σ H q)⟩
theorem pssImp {st : List Stmt} {t t' : TS} (h : PSs X st t) (i : ∀ D σ H, t' D σ H → t D σ H) : PSs X st t' := ⟨fun pins s σ H D I q => h.run pins s σ H D I (i D σ H q)⟩

abbrev PD (X : Cx) (e : Expr) (m : ME) : Prop := PE X e (tD X.K m)
abbrev PDT (X : Cx) (e : Expr) (m : MT) : Prop := PT X e (tDT X.K m)
abbrev PDA (X : Cx) (es : List Expr) (m : MA) : Prop := PA X es (tDA X.K m)

/-! names, constants -/
@[simp] def mVar (i : Nat) : ME := fun σ S => (σ[i]?.bind id).map fun w => (w, S)
theorem d_var (i : Nat) {x : Str} (hN : X.N[i]? = some x := by rfl) (hv : Vis X.env.scope x := by first | exact Or.inl rfl | exact Or.inr (Or.inl rfl) | exact Or.inr (Or.inr rfl)) (hd : (x == ("__debug__" : Str)) = false := by decide)
    (hcd : (x == ("__classdict__" : Str)) = false := by decide) : PD X (.Name x pos) (mVar i) := peImp (pv i hN hv hd hcd) fun σ H Q ⟨ρ, σd, S, w, S', hs, he, hm, q⟩ => by
  unfold mVar at hm
  rw [Option.map_eq_some_iff] at hm
  obtain ⟨w', h1, h2⟩ := hm
  cases h2
  obtain ⟨ow, h3, h4⟩ := Option.bind_eq_some_iff.mp h1
  have h4' : ow = some w := h4
  subst h4'
  obtain ⟨v, h5, h6⟩ := he.get i w h3
  exact ⟨v, h5, q ρ v H .refl hs h6⟩
@[simp] def mC (w : W) : ME := fun _ S => some (w, S)
abbrev mInt (i : Int) : ME := mC (.d (.int i))
abbrev mStr (x : Str) : ME := mC (.d (.str x))
abbrev mBool (b : Bool) : ME := mC (.d (.bool b))
abbrev mNone : ME := mC (.d .none)
theorem d_c {w : W} {v : V} (h : PE X e (tC v)) (hr : ∀ ρ H, RelW X.K ρ H w v) : PD X e (mC w) := peImp h fun σ H Q ⟨ρ, σd, S, w', S', hs, he, hm, q⟩ => by
  cases hm
  exact q ρ v H .refl hs (hr ρ H)
theorem d_int {i : Int} {j} : PD X (.Constant (.int i) j pos) (mInt i) := d_c pe_int fun _ _ => .int i
theorem d_bool {b : Bool} {j} : PD X (.Constant (.bool b) j pos) (mBool b) := d_c pe_bl fun _ _ => .bl b
theorem d_none {j} : PD X (.Constant .none j pos) mNone := d_c pe_non fun _ _ => .non
theorem d_str {x : Str} {j} : PD X (.Constant (.str x) j pos) (mStr x) := d_c pe_str fun _ _ => .str x
/-- a constant of the top -/
theorem d_glob {x : Str} {w : W} {v : V} {u : Value} (hg : Gl X x) (hm : X.mg x = some u) (r : RelV v u) (hr : ∀ ρ H, RelW X.K ρ H w v) (hd : (x == ("__debug__" : Str)) = false := by decide) : PD X (.Name x pos) (mC w) := d_c (pe_glob hg hm r hd) hr

/-! operations upon two values -/
abbrev G2 := Sto → W → W → Option W
def rD2 (K : PySem.W.Frag) (g : G2) : R2 := fun v u H Q => ∃ ρ S x y w, SRel ρ H S ∧ RelW K ρ H x v ∧ RelW K ρ H y u ∧ g S x y = some w ∧ ∀ ρ' z H', Ext ρ H ρ' H' → SRel ρ' H' S → RelW K ρ' H' w z → Q z H'
abbrev OpD (X : Cx) (f : Value → Value → Sem Value) (g : G2) : Prop := OpR X f (rD2 X.K g)
@[simp] def mBin (g : G2) (a b : ME) : ME := fun σ S => (a σ S).bind fun r => (b σ r.2).bind fun q => (g q.2 r.1 q.1).map fun w => (w, q.2)
theorem bin_of {K : PySem.W.Frag} {g : G2} {ma mb : ME} {σ : L2.St} {H : Hp} {Q : VK} (h : tD K (mBin g ma mb) σ H Q) : tOp (rD2 K g) (tD K ma) (tD K mb) σ H Q := by
  obtain ⟨ρ, σd, S, w, S', hs, he, hm, q⟩ := h
  unfold mBin at hm
  obtain ⟨⟨w1, S1⟩, h1, hm⟩ := Option.bind_eq_some_iff.mp hm
  obtain ⟨⟨w2, S2⟩, h2, hm⟩ := Option.bind_eq_some_iff.mp hm
  rw [Option.map_eq_some_iff] at hm
  obtain ⟨w', h3, h4⟩ := hm
  cases h4
  refine ⟨ρ, σd, S, w1, S1, hs, he, h1, fun ρ1 v1 H1 e1 s1 r1 => ⟨ρ1, σd, S1, w2, S2, s1, he.ext e1, h2, fun ρ2 v2 H2 e2 s2 r2 => ?_⟩⟩
  exact ⟨ρ2, S2, w1, w2, w, s2, r1.ext e2, r2, h3, fun ρ3 z H3 e3 s3 r3 => q ρ3 z H3 ((e1.trans e2).trans e3) s3 r3⟩
theorem d_bin {op : Operator} {g : G2} {ma mb : ME} (ho : OpD X (binaryOp op) g) (ha : PD X a ma) (hb : PD X b mb) : PD X (.BinOp a op b pos) (mBin g ma mb) :=
  peImp (pe_op ho ha hb) fun _ _ _ h => bin_of h
theorem d_cmp {op : CmpOp} {g : G2} {ma mb : ME} (ho : OpD X (compareOp op) g) (ha : PD X a ma) (hb : PD X b mb) (hm : behindInMarks op b = false) : PD X (.Compare a [op] [b] pos) (mBin g ma mb) :=
  peImp (pe_cmpR ho ha hb hm) fun _ _ _ h => bin_of h
/-- a value as a test -/
@[simp] def asB : W → Option Bool
  | .d (.bool b) => some b
  | _ => none
theorem asB_rel {K : PySem.W.Frag} {ρ : Rho} {H : Hp} {w : W} {v : V} {b : Bool} (h : asB w = some b) (r : RelW K ρ H w v) : v = .bl b := by
  cases w with
  | d x =>
    cases x with
    | bool c => cases h; cases r; rfl
    | _ => cases h
  | _ => cases h
@[simp] def mB (m : ME) : MT := fun σ S => (m σ S).bind fun r => (asB r.1).map fun b => (b, r.2)
theorem test_of {K : PySem.W.Frag} {m : ME} {t : TE} (i : ∀ σ H Q, tD K m σ H Q → t σ H Q) {σ : L2.St} {H : Hp} {Q : Bool → Hp → Prop} (h : tDT K (mB m) σ H Q) : tTest t σ H Q := by
  obtain ⟨ρ, σd, S, b, S', hs, he, hm, q⟩ := h
  obtain ⟨⟨w1, S1⟩, h1, hm⟩ := Option.bind_eq_some_iff.mp hm
  rw [Option.map_eq_some_iff] at hm
  obtain ⟨b', h3, h4⟩ := hm
  cases h4
  exact i _ _ _ ⟨ρ, σd, S, w1, S1, hs, he, h1, fun ρ1 v1 H1 e1 s1 r1 => ⟨b, asB_rel h3 r1, q ρ1 H1 e1 s1⟩⟩
theorem d_cmpT {op : CmpOp} {g : G2} {ma mb : ME} (ho : OpD X (compareOp op) g) (ha : PD X a ma) (hb : PD X b mb) (hm : behindInMarks op b = false) : PDT X (.Compare a [op] [b] pos) (mB (mBin g ma mb)) :=
  ptImp (pt_cmpR ho ha hb hm) fun _ _ _ h => test_of (fun _ _ _ => bin_of) h
/-- a < b < c -/
@[simp] def mChain (g g' : G2) (a b c : ME) : ME := fun σ S => (a σ S).bind fun r => (b σ r.2).bind fun q => (g q.2 r.1 q.1).bind fun w => (asB w).bind fun k =>
  if k = true then (c σ q.2).bind fun p => (g' p.2 q.1 p.1).map fun w => (w, p.2) else some (.d (.bool false), q.2)
theorem chain_of {K : PySem.W.Frag} {g g' : G2} {ma mb mc : ME} {σ : L2.St} {H : Hp} {Q : VK} (h : tD K (mChain g g' ma mb mc) σ H Q) : tChain (rD2 K g) (rD2 K g') (tD K ma) (tD K mb) (tD K mc) σ H Q := by
  obtain ⟨ρ, σd, S, w, S', hs, he, hm, q⟩ := h
  unfold mChain at hm
  obtain ⟨⟨w1, S1⟩, h1, hm⟩ := Option.bind_eq_some_iff.mp hm
  obtain ⟨⟨w2, S2⟩, h2, hm⟩ := Option.bind_eq_some_iff.mp hm
  obtain ⟨w', h3, hm⟩ := Option.bind_eq_some_iff.mp hm
  obtain ⟨k, hk, hm⟩ := Option.bind_eq_some_iff.mp hm
  refine ⟨ρ, σd, S, w1, S1, hs, he, h1, fun ρ1 v1 H1 e1 s1 r1 => ⟨ρ1, σd, S1, w2, S2, s1, he.ext e1, h2, fun ρ2 v2 H2 e2 s2 r2 => ?_⟩⟩
  refine ⟨ρ2, S2, w1, w2, w', s2, r1.ext e2, r2, h3, fun ρ3 z H3 e3 s3 r3 => ⟨k, asB_rel hk r3, ?_⟩⟩
  cases k with
  | false =>
    rw [if_neg Bool.false_ne_true] at hm ⊢
    cases hm
    exact q ρ3 _ H3 ((e1.trans e2).trans e3) s3 (.bl false)
  | true =>
    rw [if_pos rfl] at hm ⊢
    obtain ⟨⟨w4, S4⟩, h4, hm⟩ := Option.bind_eq_some_iff.mp hm
    rw [Option.map_eq_some_iff] at hm
    obtain ⟨w5, h5, h6⟩ := hm
    cases h6
    refine ⟨ρ3, σd, S2, w4, S4, s3, he.ext ((e1.trans e2).trans e3), h4, fun ρ4 v4 H4 e4 s4 r4 => ?_⟩
    exact ⟨ρ4, S4, w2, w4, w, s4, r2.ext (e3.trans e4), r4, h5, fun ρ5 z5 H5 e5 s5 r5 => q ρ5 z5 H5 ((((e1.trans e2).trans e3).trans e4).trans e5) s5 r5⟩
theorem d_chain {op op' : CmpOp} {g g' : G2} {ma mb mc : ME} (ho : OpD X (compareOp op) g) (ho' : OpD X (compareOp op') g') (ha : PD X a ma) (hb : PD X b mb) (hc : PD X c mc)
    (hm : lastMarks [op, op'] [b, c] = false := by with_unfolding_all rfl) : PD X (.Compare a [op, op'] [b, c] pos) (mChain g g' ma mb mc) := peImp (pe_chain ho ho' ha hb hc hm) fun _ _ _ h => chain_of h
theorem d_chainT {op op' : CmpOp} {g g' : G2} {ma mb mc : ME} (ho : OpD X (compareOp op) g) (ho' : OpD X (compareOp op') g') (ha : PD X a ma) (hb : PD X b mb) (hc : PD X c mc)
    (hm : lastMarks [op, op'] [b, c] = false := by with_unfolding_all rfl) : PDT X (.Compare a [op, op'] [b, c] pos) (mB (mChain g g' ma mb mc)) := ptImp (pt_chain ho ho' ha hb hc hm) fun _ _ _ h => test_of (fun _ _ _ => chain_of) h
/-- an expression that gives a truth value, as a test -/
theorem d_valT {m : ME} (h : PD X e m) (he : ∀ whole, isTrue e X.env whole = (do let v ← whole; standAt e.pos; holding [v] (truthy v)) := by intro _; rfl) : PDT X e (mB m) :=
  ptImp (pt_val h he) fun _ _ _ h => test_of (fun _ _ _ h => h) h

/-! and, or, not -/
abbrev PDW (X : Cx) (e : Expr) (m : MT) : Prop := PW X e (tDT X.K m)
theorem pwImp {t t' : TT} (h : PW X e t) (i : ∀ σ H Q, t' σ H Q → t σ H Q) : PW X e t' := ⟨fun wh pins s σ H Q I q => h.run wh pins s σ H Q I (i σ H Q q)⟩
@[simp] def mAndT (a b : MT) : MT := fun σ S => (a σ S).bind fun r => if r.1 = true then b σ r.2 else some (false, r.2)
@[simp] def mOrT (a b : MT) : MT := fun σ S => (a σ S).bind fun r => if r.1 = true then some (true, r.2) else b σ r.2
@[simp] def mNotT (a : MT) : MT := fun σ S => (a σ S).map fun r => (!r.1, r.2)
variable {rest : List Expr}
theorem d_and1 {ma : MT} (ha : PDT X a ma) : PDW X (.BoolOp .And [a] pos) ma := pw_and1 ha
theorem d_or1 {ma : MT} (ha : PDT X a ma) : PDW X (.BoolOp .Or [a] pos) ma := pw_or1 ha
theorem d_andT {ma mb : MT} (ha : PDT X a ma) (hb : PDW X (.BoolOp .And (b :: rest) pos) mb) : PDW X (.BoolOp .And (a :: b :: rest) pos) (mAndT ma mb) :=
  pwImp (pw_and ha hb) fun σ H Q ⟨ρ, σd, S, k, S', hs, he, hm, q⟩ => by
    obtain ⟨⟨k1, S1⟩, h1, hm⟩ := Option.bind_eq_some_iff.mp hm
    refine ⟨ρ, σd, S, k1, S1, hs, he, h1, fun ρ1 H1 e1 s1 => ?_⟩
    cases k1 with
    | true =>
      rw [if_pos rfl] at hm ⊢
      exact ⟨ρ1, σd, S1, k, S', s1, he.ext e1, hm, fun ρ2 H2 e2 s2 => q ρ2 H2 (e1.trans e2) s2⟩
    | false =>
      rw [if_neg Bool.false_ne_true] at hm ⊢
      cases hm
      exact q ρ1 H1 e1 s1
theorem d_orT {ma mb : MT} (ha : PDT X a ma) (hb : PDW X (.BoolOp .Or (b :: rest) pos) mb) : PDW X (.BoolOp .Or (a :: b :: rest) pos) (mOrT ma mb) :=
  pwImp (pw_or ha hb) fun σ H Q ⟨ρ, σd, S, k, S', hs, he, hm, q⟩ => by
    obtain ⟨⟨k1, S1⟩, h1, hm⟩ := Option.bind_eq_some_iff.mp hm
    refine ⟨ρ, σd, S, k1, S1, hs, he, h1, fun ρ1 H1 e1 s1 => ?_⟩
    cases k1 with
    | false =>
      rw [if_neg Bool.false_ne_true] at hm ⊢
      exact ⟨ρ1, σd, S1, k, S', s1, he.ext e1, hm, fun ρ2 H2 e2 s2 => q ρ2 H2 (e1.trans e2) s2⟩
    | true =>
      rw [if_pos rfl] at hm ⊢
      cases hm
      exact q ρ1 H1 e1 s1
theorem d_w {m : MT} (h : PDW X e m) : PDT X e m := h.pt
theorem d_notT {ma : MT} (ha : PDT X a ma) : PDT X (.UnaryOp .Not a pos) (mNotT ma) := ptImp (pt_not ha) fun σ H Q ⟨ρ, σd, S, k, S', hs, he, hm, q⟩ => by
  unfold mNotT at hm
  rw [Option.map_eq_some_iff] at hm
  obtain ⟨⟨k1, S1⟩, h1, h2⟩ := hm
  cases h2
  exact ⟨ρ, σd, S, k1, S1, hs, he, h1, fun ρ1 H1 e1 s1 => q ρ1 H1 e1 s1⟩
/-- .. as values -/
@[simp] def mAnd (a b : ME) : ME := fun σ S => (a σ S).bind fun r => (asB r.1).bind fun k => if k = true then b σ r.2 else some (.d (.bool false), r.2)
@[simp] def mOr (a b : ME) : ME := fun σ S => (a σ S).bind fun r => (asB r.1).bind fun k => if k = true then some (.d (.bool true), r.2) else b σ r.2
@[simp] def mNot (a : ME) : ME := fun σ S => (a σ S).bind fun r => (asB r.1).map fun k => (.d (.bool (!k)), r.2)
theorem d_one {op} {m : ME} (h : PD X a m) : PD X (.BoolOp op [a] pos) m := pe_one h
theorem d_and {ma mb : ME} (ha : PD X a ma) (hb : PD X (.BoolOp .And (b :: rest) pos) mb) : PD X (.BoolOp .And (a :: b :: rest) pos) (mAnd ma mb) :=
  peImp (pe_and ha hb) fun σ H Q ⟨ρ, σd, S, w, S', hs, he, hm, q⟩ => by
    obtain ⟨⟨w1, S1⟩, h1, hm⟩ := Option.bind_eq_some_iff.mp hm
    obtain ⟨k, hk, hm⟩ := Option.bind_eq_some_iff.mp hm
    refine ⟨ρ, σd, S, w1, S1, hs, he, h1, fun ρ1 v1 H1 e1 s1 r1 => ⟨k, asB_rel hk r1, ?_⟩⟩
    cases k with
    | true =>
      rw [if_pos rfl] at hm ⊢
      exact ⟨ρ1, σd, S1, w, S', s1, he.ext e1, hm, fun ρ2 z H2 e2 s2 r2 => q ρ2 z H2 (e1.trans e2) s2 r2⟩
    | false =>
      rw [if_neg Bool.false_ne_true] at hm ⊢
      cases hm
      exact q ρ1 _ H1 e1 s1 (.bl false)
theorem d_or {ma mb : ME} (ha : PD X a ma) (hb : PD X (.BoolOp .Or (b :: rest) pos) mb) : PD X (.BoolOp .Or (a :: b :: rest) pos) (mOr ma mb) :=
  peImp (pe_or ha hb) fun σ H Q ⟨ρ, σd, S, w, S', hs, he, hm, q⟩ => by
    obtain ⟨⟨w1, S1⟩, h1, hm⟩ := Option.bind_eq_some_iff.mp hm
    obtain ⟨k, hk, hm⟩ := Option.bind_eq_some_iff.mp hm
    refine ⟨ρ, σd, S, w1, S1, hs, he, h1, fun ρ1 v1 H1 e1 s1 r1 => ⟨k, asB_rel hk r1, ?_⟩⟩
    cases k with
    | false =>
      rw [if_neg Bool.false_ne_true] at hm ⊢
      exact ⟨ρ1, σd, S1, w, S', s1, he.ext e1, hm, fun ρ2 z H2 e2 s2 r2 => q ρ2 z H2 (e1.trans e2) s2 r2⟩
    | true =>
      rw [if_pos rfl] at hm ⊢
      cases hm
      exact q ρ1 _ H1 e1 s1 (.bl true)
theorem d_not {ma : ME} (ha : PD X a ma) : PD X (.UnaryOp .Not a pos) (mNot ma) := peImp (pe_not ha) fun σ H Q ⟨ρ, σd, S, w, S', hs, he, hm, q⟩ => by
  obtain ⟨⟨w1, S1⟩, h1, hm⟩ := Option.bind_eq_some_iff.mp hm
  rw [Option.map_eq_some_iff] at hm
  obtain ⟨k, hk, h2⟩ := hm
  cases h2
  exact ⟨ρ, σd, S, w1, S1, hs, he, h1, fun ρ1 v1 H1 e1 s1 r1 => ⟨k, asB_rel hk r1, q ρ1 _ H1 e1 s1 (.bl _)⟩⟩
@[simp] def mIf (t : MT) (a b : ME) : ME := fun σ S => (t σ S).bind fun r => if r.1 = true then a σ r.2 else b σ r.2
theorem d_if {mt : MT} {ma mb : ME} (hc : PDT X c mt) (ha : PD X a ma) (hb : PD X b mb) : PD X (.IfExp c a b pos) (mIf mt ma mb) :=
  peImp (pe_ifExp hc ha hb) fun σ H Q ⟨ρ, σd, S, w, S', hs, he, hm, q⟩ => by
    obtain ⟨⟨k, S1⟩, h1, hm⟩ := Option.bind_eq_some_iff.mp hm
    refine ⟨ρ, σd, S, k, S1, hs, he, h1, fun ρ1 H1 e1 s1 => ?_⟩
    cases k with
    | true =>
      rw [if_pos rfl] at hm ⊢
      exact ⟨ρ1, σd, S1, w, S', s1, he.ext e1, hm, fun ρ2 z H2 e2 s2 r2 => q ρ2 z H2 (e1.trans e2) s2 r2⟩
    | false =>
      rw [if_neg Bool.false_ne_true] at hm ⊢
      exact ⟨ρ1, σd, S1, w, S', s1, he.ext e1, hm, fun ρ2 z H2 e2 s2 r2 => q ρ2 z H2 (e1.trans e2) s2 r2⟩

/-! operations upon one value -/
abbrev G1 := Sto → W → Option W
def rD1 (K : PySem.W.Frag) (g : G1) : V → Hp → VK → Prop := fun v H Q => ∃ ρ S x w, SRel ρ H S ∧ RelW K ρ H x v ∧ g S x = some w ∧ ∀ ρ' z H', Ext ρ H ρ' H' → SRel ρ' H' S → RelW K ρ' H' w z → Q z H'
abbrev UnD (X : Cx) (f : Value → Sem Value) (g : G1) : Prop := UnR X f (rD1 X.K g)
@[simp] def mUn (g : G1) (a : ME) : ME := fun σ S => (a σ S).bind fun r => (g r.2 r.1).map fun w => (w, r.2)
theorem d_un {op : UnaryOp} {g : G1} {ma : ME} (ho : UnD X (unaryOp op) g) (ha : PD X a ma) : PD X (.UnaryOp op a pos) (mUn g ma) := peImp (pe_un ho ha) fun σ H Q ⟨ρ, σd, S, w, S', hs, he, hm, q⟩ => by
  unfold mUn at hm
  obtain ⟨⟨w1, S1⟩, h1, hm⟩ := Option.bind_eq_some_iff.mp hm
  rw [Option.map_eq_some_iff] at hm
  obtain ⟨w', h3, h4⟩ := hm
  cases h4
  exact ⟨ρ, σd, S, w1, S1, hs, he, h1, fun ρ1 v1 H1 e1 s1 r1 => ⟨ρ1, S1, w1, w, s1, r1, h3, fun ρ2 z H2 e2 s2 r2 => q ρ2 z H2 (e1.trans e2) s2 r2⟩⟩

/-! arguments -/
@[simp] def mNil : MA := fun _ S => some ([], S)
@[simp] def mCons (a : ME) (r : MA) : MA := fun σ S => (a σ S).bind fun p => (r σ p.2).map fun q => (p.1 :: q.1, q.2)
theorem da_nil : PDA X [] mNil := paImp pa_nil fun σ H Q ⟨ρ, σd, S, w, S', hs, he, hm, q⟩ => by
  cases hm
  exact q ρ _ H .refl hs .nil
theorem da_cons {es : List Expr} {ma : ME} {mr : MA} (ha : PD X a ma) (hr : PDA X es mr) (hs : starEach (a :: es) X.env = (false, eval a X.env) :: starEach es X.env := by rfl) : PDA X (a :: es) (mCons ma mr) :=
  paImp (pa_cons ha hr hs) fun σ H Q ⟨ρ, σd, S, w, S', hs, he, hm, q⟩ => by
    obtain ⟨⟨w1, S1⟩, h1, hm⟩ := Option.bind_eq_some_iff.mp hm
    rw [Option.map_eq_some_iff] at hm
    obtain ⟨⟨ws, S2⟩, h2, h3⟩ := hm
    cases h3
    exact ⟨ρ, σd, S, w1, S1, hs, he, h1, fun ρ1 v1 H1 e1 s1 r1 => ⟨ρ1, σd, S1, ws, _, s1, he.ext e1, h2, fun ρ2 vs H2 e2 s2 r2 => q ρ2 _ H2 (e1.trans e2) s2 (.cons (r1.ext e2) r2)⟩⟩

/-! tuples and lists, written -/
@[simp] def asD1 : W → Option D
  | .d x => some x
  | _ => none
@[simp] def asDs : List W → Option (List D)
  | [] => some []
  | w :: ws => (asD1 w).bind fun d => (asDs ws).map fun ds => d :: ds
theorem asDs_rel {K : PySem.W.Frag} {ρ : Rho} {H : Hp} : ∀ {ws : List W} {vs : List V} {ds : List D}, asDs ws = some ds → RelWs K ρ H ws vs → RepL ρ H ds vs
  | [], _, _, h, r => by cases h; cases r; exact .nil
  | w :: ws, _, _, h, r => by
    cases r with
    | cons r1 r2 =>
      obtain ⟨d, h1, h2⟩ := Option.bind_eq_some_iff.mp h
      rw [Option.map_eq_some_iff] at h2
      obtain ⟨ds, h3, h4⟩ := h2
      cases h4
      cases w with
      | d x => cases h1; exact .cons r1 (asDs_rel h3 r2)
      | _ => cases h1
theorem asDs_len : ∀ {ws : List W} {ds : List D}, asDs ws = some ds → ds.length = ws.length
  | [], _, h => by cases h; rfl
  | w :: ws, _, h => by
    obtain ⟨d, h1, h2⟩ := Option.bind_eq_some_iff.mp h
    rw [Option.map_eq_some_iff] at h2
    obtain ⟨ds, h3, h4⟩ := h2
    cases h4
    simp [asDs_len h3]
def fits (n : Nat) : Bool := decide (n ≤ 16777216)
theorem fits_ok {n : Nat} (h : fits n = true) : n ≤ sizeLine := by rw [sizeLine_eq]; exact of_decide_eq_true h
theorem fits_lt {n : Nat} (h : fits (n + 1) = true) : n < sizeLine := by rw [sizeLine_eq]; have := of_decide_eq_true h; omega
@[simp] def mTup (m : MA) : ME := fun σ S => (m σ S).bind fun r => (asDs r.1).bind fun ds => if fits ds.length = true then some (.d (.tuple ds), r.2) else none
@[simp] def mLst (m : MA) : ME := fun σ S => (m σ S).bind fun r => (asDs r.1).bind fun ds => if fits ds.length = true then some (.d (.list ds), r.2) else none
/-- a list that is to be changed -/
@[simp] def mNew (m : MA) : ME := fun σ S => (m σ S).bind fun r => (asDs r.1).bind fun ds => if fits ds.length = true then some (.loc r.2.length, r.2 ++ [.lst ds]) else none
theorem some_if {α : Type} {c : Bool} {x y : α} (h : (if c = true then some x else none) = some y) : c = true ∧ x = y := by
  cases c with
  | true => exact ⟨rfl, Option.some.inj h⟩
  | false => cases h
variable {es : List Expr}
theorem d_tup {x1} {m : MA} (h : PDA X es m) : PD X (.Tuple es x1 pos) (mTup m) := peImp (pe_tup h) fun σ H Q ⟨ρ, σd, S, w, S', hs, he, hm, q⟩ => by
  obtain ⟨⟨ws, S1⟩, h1, hm⟩ := Option.bind_eq_some_iff.mp hm
  obtain ⟨ds, hd, hm⟩ := Option.bind_eq_some_iff.mp hm
  obtain ⟨hf, hm⟩ := some_if hm
  cases hm
  refine ⟨ρ, σd, S, ws, S1, hs, he, h1, fun ρ1 vs H1 e1 s1 r1 => ?_⟩
  have r := asDs_rel hd r1
  refine ⟨by rw [← r.length]; exact fits_ok hf, fun p hp => q ρ1 _ _ (e1.trans (Ext.new hp)) (s1.new hp) ?_⟩
  exact .tup upd_same (s1.fresh hp) (r.ext (Ext.new hp))
theorem d_lst {m : MA} (h : PDA X es m) : PD X (.List es pos) (mLst m) := peImp (pe_lst h) fun σ H Q ⟨ρ, σd, S, w, S', hs, he, hm, q⟩ => by
  obtain ⟨⟨ws, S1⟩, h1, hm⟩ := Option.bind_eq_some_iff.mp hm
  obtain ⟨ds, hd, hm⟩ := Option.bind_eq_some_iff.mp hm
  obtain ⟨hf, hm⟩ := some_if hm
  cases hm
  refine ⟨ρ, σd, S, ws, S1, hs, he, h1, fun ρ1 vs H1 e1 s1 r1 => ?_⟩
  have r := asDs_rel hd r1
  refine ⟨by rw [← r.length]; exact fits_ok hf, fun p hp => q ρ1 _ _ (e1.trans (Ext.new hp)) (s1.new hp) ?_⟩
  exact .lst upd_same (s1.fresh hp) (r.ext (Ext.new hp))
theorem new_loc {K : PySem.W.Frag} {ρ : Rho} {H0 H : Hp} {S : Sto} {p : Addr} (s : SRel ρ H0 S) : RelW K (ρ.add p) H (.loc S.length) (.ref p) := by
  refine ⟨by simp [s.len, Rho.add], fun a ha => ?_⟩
  have ha : (ρ.l ++ [some p])[S.length]? = some (some a) := ha
  rw [← s.len, List.getElem?_append_right (Nat.le_refl _)] at ha
  simp at ha
  rw [ha]
theorem d_new {m : MA} (h : PDA X es m) : PD X (.List es pos) (mNew m) := peImp (pe_lst h) fun σ H Q ⟨ρ, σd, S, w, S', hs, he, hm, q⟩ => by
  obtain ⟨⟨ws, S1⟩, h1, hm⟩ := Option.bind_eq_some_iff.mp hm
  obtain ⟨ds, hd, hm⟩ := Option.bind_eq_some_iff.mp hm
  obtain ⟨hf, hm⟩ := some_if hm
  cases hm
  refine ⟨ρ, σd, S, ws, S1, hs, he, h1, fun ρ1 vs H1 e1 s1 r1 => ?_⟩
  have r := asDs_rel hd r1
  refine ⟨by rw [← r.length]; exact fits_ok hf, fun p hp => q (ρ1.add p) _ _ (e1.trans (Ext.alloc s1 hp)) (s1.alloc hp ?_) (new_loc s1)⟩
  exact ⟨vs, upd_same, r.ext (Ext.alloc s1 hp)⟩
/-- a dict that is to be changed, of plain keys, of tuples -/
@[simp] def mNewK : ME := fun _ S => some (.loc S.length, S ++ [.dK []])
@[simp] def mNewT : ME := fun _ S => some (.loc S.length, S ++ [.dT []])
theorem d_newK : PD X (.Dict [] [] pos) mNewK := peImp pe_dnewK fun σ H Q ⟨ρ, σd, S, w, S', hs, he, hm, q⟩ => by
  cases hm
  exact fun p hp => q (ρ.add p) _ _ (Ext.alloc hs hp) (hs.alloc hp ⟨[], upd_same, .nil⟩) (new_loc hs)
theorem d_newT : PD X (.Dict [] [] pos) mNewT := peImp pe_dnewT fun σ H Q ⟨ρ, σd, S, w, S', hs, he, hm, q⟩ => by
  cases hm
  exact fun p hp => q (ρ.add p) _ _ (Ext.alloc hs hp) (hs.alloc hp ⟨[], upd_same, .nil⟩) (new_loc hs)
/-- a ghost step: what was mutable is data from here on -/
def frz (S : Sto) : W → Option (W × Sto)
  | .loc i => match S[i]? with
    | some (.lst xs) => some (.d (.list xs), S.set i .dead)
    | some (.dK kvs) => some (.kd false kvs, S.set i .dead)
    | some (.dT kvs) => some (.td false kvs, S.set i .dead)
    | _ => none
  | .kd b kvs => some (.kd b kvs, S)
  | .td b kvs => some (.td b kvs, S)
  | .d x => some (.d x, S)
  | _ => none
theorem frz_ok {K : PySem.W.Frag} {ρ : Rho} {H : Hp} {S S' : Sto} {w w' : W} {v : V} (s : SRel ρ H S) (r : RelW K ρ H w v) (h : frz S w = some (w', S')) : ∃ ρ', Ext ρ H ρ' H ∧ SRel ρ' H S' ∧ RelW K ρ' H w' v := by
  cases w with
  | loc i =>
    simp only [frz] at h
    split at h
    · rename_i xs e
      cases h
      obtain ⟨a, vs, rfl, h1, h2, h3⟩ := s.lst_at r e
      exact ⟨ρ.kill i, Ext.freeze, s.freeze, .lst h2 (s.notin h1) (h3.ext Ext.freeze)⟩
    · rename_i kvs e
      cases h
      obtain ⟨a, q⟩ := s.live i _ e (by intro z; cases z)
      obtain ⟨o, h1, h2⟩ := s.obj i a q
      rw [e] at h1; cases h1
      obtain ⟨us, h3, h4⟩ := h2
      exact ⟨ρ.kill i, Ext.freeze, s.freeze, a, us, r.2 a q, s.notin q, .inl h3, fun z => (by cases z), h4.ext Ext.freeze⟩
    · rename_i kvs e
      cases h
      obtain ⟨a, q⟩ := s.live i _ e (by intro z; cases z)
      obtain ⟨o, h1, h2⟩ := s.obj i a q
      rw [e] at h1; cases h1
      obtain ⟨us, h3, h4⟩ := h2
      exact ⟨ρ.kill i, Ext.freeze, s.freeze, a, us, r.2 a q, s.notin q, .inl h3, fun z => (by cases z), h4.ext Ext.freeze⟩
    · cases h
  | kd b kvs => cases h; exact ⟨ρ, Ext.refl, s, r⟩
  | td b kvs => cases h; exact ⟨ρ, Ext.refl, s, r⟩
  | d x => cases h; exact ⟨ρ, Ext.refl, s, r⟩
  | _ => cases h
def mFrz (a : ME) : ME := fun σ S => (a σ S).bind fun r => frz r.2 r.1
theorem d_frz {m : ME} (h : PD X e m) : PD X e (mFrz m) := peImp h fun σ H Q ⟨ρ, σd, S, w, S', hs, he, hm, q⟩ => by
  obtain ⟨⟨w1, S1⟩, h1, hm⟩ := Option.bind_eq_some_iff.mp hm
  refine ⟨ρ, σd, S, w1, S1, hs, he, h1, fun ρ1 v1 H1 e1 s1 r1 => ?_⟩
  obtain ⟨ρ2, e2, s2, r2⟩ := frz_ok s1 r1 hm
  exact q ρ2 v1 H1 (e1.trans e2) s2 r2
/-- data becomes mutable: a new list that nobody holds (a comprehension, a slice ..) -/
def thaw (S : Sto) : W → Option (W × Sto)
  | _ => none

/-! calls of what is built in -/
abbrev GC := Sto → List W → Option (W × Sto)
def rDC (K : PySem.W.Frag) (g : GC) : List V → Hp → VK → Prop := fun vs H Q => ∃ ρ S ws w S', SRel ρ H S ∧ RelWs K ρ H ws vs ∧ g S ws = some (w, S') ∧ ∀ ρ' z H', Ext ρ H ρ' H' → SRel ρ' H' S' → RelW K ρ' H' w z → Q z H'
abbrev CallD (X : Cx) (f : Value) (g : GC) : Prop := CallR X f (rDC X.K g)
@[simp] def mCall (g : GC) (m : MA) : ME := fun σ S => (m σ S).bind fun r => g r.2 r.1
theorem call_of {K : PySem.W.Frag} {g : GC} {m : MA} {σ : L2.St} {H : Hp} {Q : VK} (h : tD K (mCall g m) σ H Q) : tCB (rDC K g) (tDA K m) σ H Q := by
  obtain ⟨ρ, σd, S, w, S', hs, he, hm, q⟩ := h
  obtain ⟨⟨ws, S1⟩, h1, hm⟩ := Option.bind_eq_some_iff.mp hm
  exact ⟨ρ, σd, S, ws, S1, hs, he, h1, fun ρ1 vs H1 e1 s1 r1 => ⟨ρ1, S1, ws, w, S', s1, r1, hm, fun ρ2 z H2 e2 s2 r2 => q ρ2 z H2 (e1.trans e2) s2 r2⟩⟩
theorem d_callB {x : Str} {id : String} {g : GC} {p : Pos} {m : MA} (hc : CallD X (.builtin id) g) (hg : Gl X x) (hm : X.mg x = none) (hv : bootBuiltins x = some (.builtin id)) (ha : PDA X (e :: es) m) (hn : x ≠ "__name__" := by decide) (hdb : (x == ("__debug__" : Str)) = false := by decide)
    (he : starEach (e :: es) X.env = (false, eval e X.env) :: starEach es X.env := by rfl) (hpl : (backTo pos (starEach es X.env)).any (·.1) = false := by rfl) : PD X (.Call (.Name x p) (e :: es) [] pos) (mCall g m) :=
  peImp (pe_callB hc hg hm hv ha hn hdb he hpl) fun _ _ _ h => call_of h
theorem d_callTy {x : Str} {T : String} {g : GC} {p : Pos} {m : MA} (hc : CallD X (.type T) g) (hg : Gl X x) (hm : X.mg x = none) (hv : bootBuiltins x = some (.type T)) (ha : PDA X (e :: es) m) (hn : x ≠ "__name__" := by decide) (hdb : (x == ("__debug__" : Str)) = false := by decide)
    (he : starEach (e :: es) X.env = (false, eval e X.env) :: starEach es X.env := by rfl) (hpl : (backTo pos (starEach es X.env)).any (·.1) = false := by rfl) : PD X (.Call (.Name x p) (e :: es) [] pos) (mCall g m) :=
  peImp (pe_callTy hc hg hm hv ha hn hdb he hpl) fun _ _ _ h => call_of h

/-! subscripts -/
abbrev IxD (X : Cx) (g : G2) : Prop := IxR X (rD2 X.K g)
theorem d_ix {g : G2} {ma mb : ME} (hr : IxD X g) (ha : PD X a ma) (hb : PD X b mb) (hs : PlainIx b) : PD X (.Subscript a b pos) (mBin g ma mb) := peImp (pe_ix hr ha hb hs) fun _ _ _ h => bin_of h
end
end DL

set_option Elab.async false
set_option linter.all false
set_option maxRecDepth 100000
set_option autoImplicit false
/-! The data layer, 3: statements, loops, comprehensions, defs. -/
noncomputable section
namespace DL
open PySem PySem.Spec PyProof.Rows L2

inductive Out where
  | nx (σ : Env) (S : Sto) | rt (w : W) (S : Sto) | bk (σ : Env) (S : Sto) | ct (σ : Env) (S : Sto)
abbrev MS := Env → Sto → Option Out

def OutOk (K : PySem.W.Frag) (ρ : Rho) (H : Hp) (D : Ends) : Out → Prop
  | .nx σd S => ∀ ρ' σ' H', Ext ρ H ρ' H' → SRel ρ' H' S → RelE K ρ' H' σd σ' → D.nx σ' H'
  | .bk σd S => ∀ ρ' σ' H', Ext ρ H ρ' H' → SRel ρ' H' S → RelE K ρ' H' σd σ' → D.bk σ' H'
  | .ct σd S => ∀ ρ' σ' H', Ext ρ H ρ' H' → SRel ρ' H' S → RelE K ρ' H' σd σ' → D.ct σ' H'
  | .rt w S => ∀ ρ' v H', Ext ρ H ρ' H' → SRel ρ' H' S → RelW K ρ' H' w v → D.rt v H'
theorem OutOk.ext {K : PySem.W.Frag} {ρ ρ' : Rho} {H H' : Hp} {D : Ends} (e : Ext ρ H ρ' H') {o : Out} (h : OutOk K ρ H D o) : OutOk K ρ' H' D o := by
  cases o <;> exact fun ρ2 x H2 e2 => h ρ2 x H2 (e.trans e2)
def sD (K : PySem.W.Frag) (m : MS) : TS := fun D σ H => ∃ ρ σd S out, SRel ρ H S ∧ RelE K ρ H σd σ ∧ m σd S = some out ∧ OutOk K ρ H D out

theorem RelE.set {K : PySem.W.Frag} {ρ : Rho} {H : Hp} {σd : Env} {σ : L2.St} {w : W} {v : V} (h : RelE K ρ H σd σ) (r : RelW K ρ H w v) (i : Nat) : RelE K ρ H (σd.set i (some w)) (σ.set i (some v)) := by
  refine ⟨by simp [h.len], fun j u e => ?_⟩
  by_cases hj : i = j
  · subst hj
    rw [List.getElem?_set] at e
    rw [if_pos rfl] at e
    split at e
    · rename_i hl
      cases e
      exact ⟨v, by rw [List.getElem?_set_self (by rw [← h.len]; exact hl)], r⟩
    · cases e
  · rw [List.getElem?_set_ne hj] at e
    obtain ⟨x, h1, h2⟩ := h.get j u e
    exact ⟨x, by rw [List.getElem?_set_ne hj]; exact h1, h2⟩

section
variable {X : Cx} {e a b c : Expr} {pos : Pos} {st : Stmt} {rest : List Stmt} {es : List Expr}
abbrev PDS (X : Cx) (st : Stmt) (m : MS) : Prop := PS X st (sD X.K m)
abbrev PDSs (X : Cx) (st : List Stmt) (m : MS) : Prop := PSs X st (sD X.K m)

/-! blocks -/
@[simp] def mSkip : MS := fun σ S => some (.nx σ S)
@[simp] def mSeq (a b : MS) : MS := fun σ S => (a σ S).bind fun o => match o with
  | .nx σ1 S1 => b σ1 S1
  | o => some o
theorem ds_nil : PDSs X [] mSkip := pssImp pss_nil fun D σ H ⟨ρ, σd, S, out, hs, he, hm, q⟩ => by
  cases hm
  exact q ρ σ H .refl hs he
theorem seq_of {K : PySem.W.Frag} {ma mb : MS} {D : Ends} {σ : L2.St} {H : Hp} (h : sD K (mSeq ma mb) D σ H) : tSeq (sD K ma) (sD K mb) D σ H := by
  obtain ⟨ρ, σd, S, out, hs, he, hm, q⟩ := h
  obtain ⟨o, h1, hm⟩ := Option.bind_eq_some_iff.mp hm
  refine ⟨ρ, σd, S, o, hs, he, h1, ?_⟩
  cases o with
  | nx σ1 S1 => exact fun ρ1 σ' H1 e1 s1 r1 => ⟨ρ1, σ1, S1, out, s1, r1, hm, q.ext e1⟩
  | rt w S1 => cases hm; exact q
  | bk σ1 S1 => cases hm; exact q
  | ct σ1 S1 => cases hm; exact q
theorem ds_cons {ma mb : MS} (h1 : PDS X st ma) (h2 : PDSs X rest mb) : PDSs X (st :: rest) (mSeq ma mb) := pssImp (pss_cons h1 h2) fun _ _ _ h => seq_of h
theorem ds_one {ma : MS} (h1 : PDS X st ma) : PDSs X [st] ma := pss_one h1
theorem ds_never {sts : List Stmt} : PDSs X sts (fun _ _ => none) := pssImp pss_never fun D σ H ⟨ρ, σd, S, out, hs, he, hm, q⟩ => by cases hm
theorem d_never : PDS X st (fun _ _ => none) := psImp ps_never fun D σ H ⟨ρ, σd, S, out, hs, he, hm, q⟩ => by cases hm
/-- a ghost step: a name's object is frozen -/
def mFrzV (i : Nat) : MS := fun σ S => (σ[i]?.bind id).bind fun w => (frz S w).map fun r => .nx (σ.set i (some r.1)) r.2
theorem ds_frz {i : Nat} {m : MS} (h : PDSs X rest m) : PDSs X rest (mSeq (mFrzV i) m) := pssImp h fun D σ H ⟨ρ, σd, S, out, hs, he, hm, q⟩ => by
  obtain ⟨o, h1, hm⟩ := Option.bind_eq_some_iff.mp hm
  obtain ⟨w, h2, h1⟩ := Option.bind_eq_some_iff.mp h1
  rw [Option.map_eq_some_iff] at h1
  obtain ⟨⟨w', S1⟩, h3, h4⟩ := h1
  cases h4
  obtain ⟨ow, h5, h6⟩ := Option.bind_eq_some_iff.mp h2
  have h6' : ow = some w := h6
  subst h6'
  obtain ⟨v, h7, r⟩ := he.get i w h5
  obtain ⟨ρ1, e1, s1, r1⟩ := frz_ok hs r h3
  have hset : σ.set i (some v) = σ := by
    obtain ⟨hl, hv⟩ := List.getElem?_eq_some_iff.mp h7
    rw [← hv, List.set_getElem_self]
  have he1 := (he.ext e1).set r1 i
  rw [hset] at he1
  exact ⟨ρ1, _, S1, out, s1, he1, hm, q.ext e1⟩

/-! small statements -/
@[simp] def mAsg (i : Nat) (m : ME) : MS := fun σ S => (m σ S).map fun r => .nx (σ.set i (some r.1)) r.2
theorem asg_of {K : PySem.W.Frag} {i : Nat} {m : ME} {D : Ends} {σ : L2.St} {H : Hp} (h : sD K (mAsg i m) D σ H) : tAsg (tD K m) (gName i) D σ H := by
  obtain ⟨ρ, σd, S, out, hs, he, hm, q⟩ := h
  unfold mAsg at hm
  rw [Option.map_eq_some_iff] at hm
  obtain ⟨⟨w, S1⟩, h1, h2⟩ := hm
  cases h2
  exact ⟨ρ, σd, S, w, S1, hs, he, h1, fun ρ1 v H1 e1 s1 r1 => q ρ1 _ H1 e1 s1 ((he.ext e1).set r1 i)⟩
theorem d_set (i : Nat) {x : Str} {m : ME} {pos' : Pos} (hN : X.N.Nodup) (hx : Loc X.env.scope x) (he : PD X e m) (hi : X.N[i]? = some x := by rfl) (hs : swapsWith e (some (.Name x pos')) pos.line X.env = pure false := by rfl)
    (hf : X.fn x = true ∨ X.env.scope.names.lookup x = some .local := by first | exact .inl rfl | exact .inr rfl) : PDS X (.Assign [.Name x pos'] e pos) (mAsg i m) := psImp (ps_set hN hi hx he hs hf) fun _ _ _ h => asg_of h
@[simp] def mExpr (m : ME) : MS := fun σ S => (m σ S).map fun r => .nx σ r.2
theorem d_expr {m : ME} (he : PD X e m) (hs : swapsWith e none pos.line X.env = pure false := by rfl) : PDS X (.Expr e pos) (mExpr m) := psImp (ps_expr he hs) fun D σ H ⟨ρ, σd, S, out, hs, he, hm, q⟩ => by
  unfold mExpr at hm
  rw [Option.map_eq_some_iff] at hm
  obtain ⟨⟨w, S1⟩, h1, h2⟩ := hm
  cases h2
  exact ⟨ρ, σd, S, w, S1, hs, he, h1, fun ρ1 v H1 e1 s1 r1 => q ρ1 _ H1 e1 s1 (he.ext e1)⟩
@[simp] def mRet (m : ME) : MS := fun σ S => (m σ S).map fun r => .rt r.1 r.2
theorem d_ret {m : ME} (he : PD X e m) : PDS X (.Return (some e) pos) (mRet m) := psImp (ps_ret he) fun D σ H ⟨ρ, σd, S, out, hs, he, hm, q⟩ => by
  unfold mRet at hm
  rw [Option.map_eq_some_iff] at hm
  obtain ⟨⟨w, S1⟩, h1, h2⟩ := hm
  cases h2
  exact ⟨ρ, σd, S, w, S1, hs, he, h1, fun ρ1 v H1 e1 s1 r1 => q ρ1 _ H1 e1 s1 r1⟩
@[simp] def mRetN : MS := fun σ S => some (.rt (.d .none) S)
theorem d_retN : PDS X (.Return none pos) mRetN := psImp ps_retN fun D σ H ⟨ρ, σd, S, out, hs, he, hm, q⟩ => by
  cases hm
  exact q ρ _ H .refl hs .non
@[simp] def mIfS (t : MT) (a b : MS) : MS := fun σ S => (t σ S).bind fun r => if r.1 = true then a σ r.2 else b σ r.2
theorem d_ifS {mt : MT} {ma mb : MS} {as bs : List Stmt} (hc : PDT X c mt) (ha : PDSs X as ma) (hb : PDSs X bs mb) : PDS X (.If c as bs pos) (mIfS mt ma mb) := psImp (ps_if hc ha hb) fun D σ H ⟨ρ, σd, S, out, hs, he, hm, q⟩ => by
  obtain ⟨⟨k, S1⟩, h1, hm⟩ := Option.bind_eq_some_iff.mp hm
  refine ⟨ρ, σd, S, k, S1, hs, he, h1, fun ρ1 H1 e1 s1 => ?_⟩
  cases k with
  | true => rw [if_pos rfl] at hm ⊢; exact ⟨ρ1, σd, S1, out, s1, he.ext e1, hm, q.ext e1⟩
  | false => rw [if_neg Bool.false_ne_true] at hm ⊢; exact ⟨ρ1, σd, S1, out, s1, he.ext e1, hm, q.ext e1⟩
@[simp] def mBreak : MS := fun σ S => some (.bk σ S)
@[simp] def mCont : MS := fun σ S => some (.ct σ S)
theorem d_pass : PDS X (.Pass pos) mSkip := psImp ps_pass fun D σ H ⟨ρ, σd, S, out, hs, he, hm, q⟩ => by
  cases hm
  exact q ρ σ H .refl hs he
theorem d_break : PDS X (.Break pos) mBreak := psImp ps_break fun D σ H ⟨ρ, σd, S, out, hs, he, hm, q⟩ => by
  cases hm
  exact q ρ σ H .refl hs he
theorem d_cont : PDS X (.Continue pos) mCont := psImp ps_continue fun D σ H ⟨ρ, σd, S, out, hs, he, hm, q⟩ => by
  cases hm
  exact q ρ σ H .refl hs he
/-- a, b = x, y -/
@[simp] def mPar2 (i j : Nat) (m : MA) : MS := fun σ S => (m σ S).bind fun r => match r.1 with
  | [u, v] => some (.nx ((σ.set i (some u)).set j (some v)) r.2)
  | _ => none
theorem d_par2 (i j : Nat) {x y : Str} {m : MA} {px py pt : Pos} {kt k2 pt2} (hc : X.calm = true) (hN : X.N.Nodup) (hx : X.env.scope.names.lookup x = some .local) (hy : X.env.scope.names.lookup y = some .local) (ha : PDA X [a, b] m)
    (hw : swappedStores [.Tuple [.Name x px, .Name y py] kt pt] (.Tuple [a, b] k2 pt2) X.env = pure (some [x, y]))
    (hi : X.N[i]? = some x := by rfl) (hj : X.N[j]? = some y := by rfl) (hij : i ≠ j := by decide)
    (hs : swapsWithSole [.Tuple [.Name x px, .Name y py] kt pt] (.Tuple [a, b] k2 pt2) pos.line X.env = pure false := by rfl) :
    PDS X (.Assign [.Tuple [.Name x px, .Name y py] kt pt] (.Tuple [a, b] k2 pt2) pos) (mPar2 i j m) := psImp (ps_par hc hN hi hj hij hx hy ha hw hs) fun D σ H ⟨ρ, σd, S, out, hs, he, hm, q⟩ => by
  obtain ⟨⟨ws, S1⟩, h1, hm⟩ := Option.bind_eq_some_iff.mp hm
  refine ⟨ρ, σd, S, ws, S1, hs, he, h1, fun ρ1 vs H1 e1 s1 r1 => ?_⟩
  simp only at hm
  split at hm
  · rename_i u v
    cases hm
    obtain ⟨y1, y2, rfl, q1, q2⟩ := r1.two
    exact ⟨y1, y2, rfl, q ρ1 _ H1 e1 s1 (((he.ext e1).set q1 i).set q2 j)⟩
  · cases hm
@[simp] def mPar3 (i j l : Nat) (m : MA) : MS := fun σ S => (m σ S).bind fun r => match r.1 with
  | [u, v, w] => some (.nx (((σ.set i (some u)).set j (some v)).set l (some w)) r.2)
  | _ => none
theorem d_par3 (i j l : Nat) {x y z : Str} {m : MA} {px py pz pt : Pos} {kt k2 pt2} (hc : X.calm = true) (hN : X.N.Nodup) (hx : X.env.scope.names.lookup x = some .local) (hy : X.env.scope.names.lookup y = some .local) (hz : X.env.scope.names.lookup z = some .local) (ha : PDA X [a, b, c] m)
    (hw : swappedStores [.Tuple [.Name x px, .Name y py, .Name z pz] kt pt] (.Tuple [a, b, c] k2 pt2) X.env = pure (some [x, y, z]))
    (hi : X.N[i]? = some x := by rfl) (hj : X.N[j]? = some y := by rfl) (hl : X.N[l]? = some z := by rfl) (hij : i ≠ j := by decide) (hil : i ≠ l := by decide) (hjl : j ≠ l := by decide)
    (hs : swapsWithSole [.Tuple [.Name x px, .Name y py, .Name z pz] kt pt] (.Tuple [a, b, c] k2 pt2) pos.line X.env = pure false := by rfl) :
    PDS X (.Assign [.Tuple [.Name x px, .Name y py, .Name z pz] kt pt] (.Tuple [a, b, c] k2 pt2) pos) (mPar3 i j l m) := psImp (ps_par3 hc hN hi hj hl hij hil hjl hx hy hz ha hw hs) fun D σ H ⟨ρ, σd, S, out, hs, he, hm, q⟩ => by
  obtain ⟨⟨ws, S1⟩, h1, hm⟩ := Option.bind_eq_some_iff.mp hm
  refine ⟨ρ, σd, S, ws, S1, hs, he, h1, fun ρ1 vs H1 e1 s1 r1 => ?_⟩
  simp only at hm
  split at hm
  · rename_i u v w
    cases hm
    cases r1 with
    | cons q0 r1 =>
      obtain ⟨y1, y2, rfl, q1, q2⟩ := r1.two
      exact ⟨_, y1, y2, rfl, q ρ1 _ H1 e1 s1 ((((he.ext e1).set q0 i).set q1 j).set q2 l)⟩
  · cases hm

/-! targets -/
abbrev MG := W → Env → Option Env
def gD (K : PySem.W.Frag) (g : MG) : TG := fun v σ H Q => ∃ ρ σd S w σ1, SRel ρ H S ∧ RelE K ρ H σd σ ∧ RelW K ρ H w v ∧ g w σd = some σ1 ∧ ∀ ρ' σ' H', Ext ρ H ρ' H' → SRel ρ' H' S → RelE K ρ' H' σ1 σ' → Q σ' H'
abbrev PDG (X : Cx) (e : Expr) (g : MG) : Prop := PG X e (gD X.K g)
theorem pgImp {t t' : TG} (h : PG X e t) (i : ∀ v σ H Q, t' v σ H Q → t v σ H Q) : PG X e t' := ⟨fun pins s σ H v u Q I r q => h.run pins s σ H v u Q I r (i v σ H Q q)⟩
@[simp] def gN (i : Nat) : MG := fun w σ => some (σ.set i (some w))
theorem dg_name (i : Nat) {x : Str} (hN : X.N.Nodup) (hx : Loc X.env.scope x) (hi : X.N[i]? = some x := by rfl) (hf : X.fn x = true ∨ X.env.scope.names.lookup x = some .local := by first | exact .inl rfl | exact .inr rfl) : PDG X (.Name x pos) (gN i) :=
  pgImp (pg_name hN hi hx hf) fun v σ H Q ⟨ρ, σd, S, w, σ1, hs, he, r, hg, q⟩ => by
    cases hg
    exact q ρ _ H .refl hs (he.set r i)
abbrev MGs := List D → Env → Option Env
def gDs (K : PySem.W.Frag) (g : MGs) : TGs := fun vs σ H Q => ∃ ρ σd S ds σ1, SRel ρ H S ∧ RelE K ρ H σd σ ∧ RepL ρ H ds vs ∧ g ds σd = some σ1 ∧ ∀ ρ' σ' H', Ext ρ H ρ' H' → SRel ρ' H' S → RelE K ρ' H' σ1 σ' → Q σ' H'
abbrev PDGs (X : Cx) (es : List Expr) (g : MGs) : Prop := PGs X es (gDs X.K g)
theorem pgsImp {t t' : TGs} (h : PGs X es t) (i : ∀ v σ H Q, t' v σ H Q → t v σ H Q) : PGs X es t' := ⟨fun pins s σ H v u Q I r q => h.run pins s σ H v u Q I r (i v σ H Q q)⟩
@[simp] def gNil : MGs := fun ds σ => match ds with
  | [] => some σ
  | _ => none
@[simp] def gCons (g : MG) (r : MGs) : MGs := fun ds σ => match ds with
  | [] => none
  | d :: ds => (g (.d d) σ).bind fun σ1 => r ds σ1
theorem dgs_nil : PDGs X [] gNil := pgsImp pgs_nil fun vs σ H Q ⟨ρ, σd, S, ds, σ1, hs, he, r, hg, q⟩ => by
  cases ds with
  | nil => cases hg; cases r; exact ⟨rfl, q ρ σ H .refl hs he⟩
  | cons d ds => cases hg
theorem dgs_cons {g : MG} {r : MGs} (h1 : PDG X e g) (h2 : PDGs X es r) (hs : (assignEach (e :: es) X.env).map (·.2) = assign e X.env :: (assignEach es X.env).map (·.2) := by rfl) : PDGs X (e :: es) (gCons g r) :=
  pgsImp (pgs_cons h1 h2 hs) fun vs σ H Q ⟨ρ, σd, S, ds, σ1, hs, he, rr, hg, q⟩ => by
    cases ds with
    | nil => cases hg
    | cons d ds =>
      cases rr with
      | cons r1 r2 =>
        obtain ⟨σ2, h3, h4⟩ := Option.bind_eq_some_iff.mp hg
        exact ⟨_, _, rfl, ρ, σd, S, .d d, σ2, hs, he, r1, h3, fun ρ1 σ' H1 e1 s1 q1 => ⟨ρ1, σ2, S, ds, σ1, s1, q1, r2.ext e1, h4, fun ρ2 σ'' H2 e2 s2 q2 => q ρ2 σ'' H2 (e1.trans e2) s2 q2⟩⟩
@[simp] def gTup (n : Nat) (r : MGs) : MG := fun w σ => (asT w).bind fun ds => if decide (ds.length = n) = true then r ds σ else none
theorem dg_tup {k : Nat} {n : Nat} {r : MGs} (hc : X.calm = true) (h : PDGs X es r) (hn : (assignEach es X.env).length = n := by rfl) (hst : (assignEach es X.env).findIdx? (·.1) = none := by rfl) : PDG X (.Tuple es k pos) (gTup n r) :=
  pgImp (pg_tup hc h hn hst) fun v σ H Q ⟨ρ, σd, S, w, σ1, hs, he, rr, hg, q⟩ => by
    obtain ⟨ds, h1, h2⟩ := Option.bind_eq_some_iff.mp hg
    obtain ⟨a, vs, rfl, ht, hr⟩ := asT_rel rr h1
    split at h2
    · rename_i hl
      exact ⟨a, vs, rfl, ht, by rw [← hr.length]; exact of_decide_eq_true hl, ρ, σd, S, ds, σ1, hs, he, hr, h2, q⟩
    · cases h2
@[simp] def mAsgG (g : MG) (m : ME) : MS := fun σ S => (m σ S).bind fun r => (g r.1 σ).map fun σ1 => .nx σ1 r.2
theorem d_asg {tg : Expr} {m : ME} {g : MG} (he : PD X e m) (hg : PDG X tg g) (hs : swapsWithSole [tg] e pos.line X.env = pure false := by rfl) (hw : swappedStores [tg] e X.env = pure none := by rfl)
    (h1 : (assignEach [tg] X.env).map (·.2) = [assign tg X.env] := by rfl) : PDS X (.Assign [tg] e pos) (mAsgG g m) := psImp (ps_asg he hg hs hw h1) fun D σ H ⟨ρ, σd, S, out, hs, he, hm, q⟩ => by
  obtain ⟨⟨w, S1⟩, h1, h2⟩ := Option.bind_eq_some_iff.mp hm
  rw [Option.map_eq_some_iff] at h2
  obtain ⟨σ1, h3, h4⟩ := h2
  cases h4
  exact ⟨ρ, σd, S, w, S1, hs, he, h1, fun ρ1 v H1 e1 s1 r1 => ⟨ρ1, σd, S1, w, σ1, s1, he.ext e1, r1, h3, fun ρ2 σ' H2 e2 s2 r2 => q ρ2 σ' H2 (e1.trans e2) s2 r2⟩⟩

/-! o[i] = v -/
abbrev GS := Sto → W → W → W → Option Sto
def rDS (K : PySem.W.Frag) (g : GS) : TSet := fun o i v H Q => ∃ ρ S x y z S', SRel ρ H S ∧ RelW K ρ H x o ∧ RelW K ρ H y i ∧ RelW K ρ H z v ∧ g S x y z = some S' ∧ ∀ ρ' H', Ext ρ H ρ' H' → SRel ρ' H' S' → Q H'
abbrev SetD (X : Cx) (g : GS) : Prop := PSet X (rDS X.K g)
@[simp] def mSetI (g : GS) (mo mi mv : ME) : MS := fun σ S => (mv σ S).bind fun v => (mo σ v.2).bind fun o => (mi σ o.2).bind fun i => (g i.2 o.1 i.1 v.1).map fun S' => .nx σ S'
theorem d_setI {o i : Expr} {mo mi mv : ME} {g : GS} {tpos : Pos} (hv : PD X e mv) (ho : PD X o mo) (hi : PD X i mi) (hs : SetD X g)
    (ha : ∀ v, assign (.Subscript o i tpos) X.env v = (do
      let ov ← holding [v] (eval o X.env)
      let iv ← holding [v, ov] (eval i X.env)
      standAt tpos
      holding [v, ov, iv] (setItem ov iv v)
      release [v, ov, iv] []) := by intro _; rfl) (hsw : swapsWithSole [.Subscript o i tpos] e pos.line X.env = pure false := by rfl) (hw : swappedStores [.Subscript o i tpos] e X.env = pure none := by rfl)
    (h1 : (assignEach [.Subscript o i tpos] X.env).map (·.2) = [assign (.Subscript o i tpos) X.env] := by rfl) : PDS X (.Assign [.Subscript o i tpos] e pos) (mSetI g mo mi mv) :=
  psImp (ps_asg hv (pg_sub ho hi hs ha) hsw hw h1) fun D σ H ⟨ρ, σd, S, out, hs, he, hm, q⟩ => by
    obtain ⟨⟨w1, S1⟩, h1, hm⟩ := Option.bind_eq_some_iff.mp hm
    obtain ⟨⟨w2, S2⟩, h2, hm⟩ := Option.bind_eq_some_iff.mp hm
    obtain ⟨⟨w3, S3⟩, h3, hm⟩ := Option.bind_eq_some_iff.mp hm
    rw [Option.map_eq_some_iff] at hm
    obtain ⟨S4, h4, h5⟩ := hm
    cases h5
    refine ⟨ρ, σd, S, w1, S1, hs, he, h1, fun ρ1 v1 H1 e1 s1 r1 => ⟨ρ1, σd, S1, w2, S2, s1, he.ext e1, h2, fun ρ2 v2 H2 e2 s2 r2 => ⟨ρ2, σd, S2, w3, S3, s2, he.ext (e1.trans e2), h3, fun ρ3 v3 H3 e3 s3 r3 => ?_⟩⟩⟩
    exact ⟨ρ3, S3, w2, w3, w1, S4, s3, r2.ext e3, r3, r1.ext (e2.trans e3), h4, fun ρ4 H4 e4 s4 => q ρ4 σ H4 (((e1.trans e2).trans e3).trans e4) s4 (he.ext (((e1.trans e2).trans e3).trans e4))⟩

/-! methods of what is built in -/
abbrev GM := Sto → W → List W → Option (W × Sto)
def rDM (K : PySem.W.Frag) (g : GM) : V → List V → Hp → VK → Prop := fun x vs H Q => ∃ ρ S w ws w' S', SRel ρ H S ∧ RelW K ρ H w x ∧ RelWs K ρ H ws vs ∧ g S w ws = some (w', S') ∧ ∀ ρ' z H', Ext ρ H ρ' H' → SRel ρ' H' S' → RelW K ρ' H' w' z → Q z H'
abbrev MtD (X : Cx) (id : String) (g : GM) : Prop := MtR X id (rDM X.K g)
/-- ty: of the type -/
@[simp] def mMeth (ty : Sto → W → Bool) (g : GM) (o : ME) (m : MA) : ME := fun σ S => (o σ S).bind fun r => if ty r.2 r.1 = true then (m σ r.2).bind fun q => g q.2 r.1 q.1 else none
def TyD (X : Cx) (T : String) (ty : Sto → W → Bool) : Prop := ∀ ρ H S w v, SRel ρ H S → RelW X.K ρ H w v → ty S w = true → tyV X.K T v H
theorem d_meth {o : Expr} {name : Str} {apos cpos : Pos} {T id : String} {g : GM} {ty : Sto → W → Bool} {mo : ME} {m : MA} (pa : PlainAttrs T) (slot : Slot T name id) (hty : typeOf (.builtin id) = pure (.type "method_descriptor")) (hm : MtD X id g) (hT : TyD X T ty) (ho : PD X o mo) (ha : PDA X (e :: es) m)
    (hbase : attributeBase o name X.env (eval o X.env) = eval o X.env := by rfl)
    (hfew : ((backTo cpos (starEach (e :: es) X.env)).all (fun x => !x.1) && (backToKw cpos (keywordEach [] X.env)).all (fun x => x.1.isSome)
      && decide ((e :: es).length + ([] : List Keyword).length + (if ([] : List Keyword).isEmpty then 0 else 1) < 30)) = true := by rfl)
    (hline : (apos.endLine == cpos.line) = true := by rfl) (hs : starEach (e :: es) X.env = (false, eval e X.env) :: starEach es X.env := by rfl) (hplain : (backTo cpos (starEach es X.env)).any (·.1) = false := by rfl) :
    PD X (.Call (.Attribute o name apos) (e :: es) [] cpos) (mMeth ty g mo m) := peImp (pe_bm pa slot hty hm ho ha hbase hfew hline hs hplain) fun σ H Q ⟨ρ, σd, S, w, S', hs, he, hm, q⟩ => by
  obtain ⟨⟨w1, S1⟩, h1, hm⟩ := Option.bind_eq_some_iff.mp hm
  dsimp only at hm
  split at hm
  · rename_i ht
    obtain ⟨⟨ws, S2⟩, h2, hm⟩ := Option.bind_eq_some_iff.mp hm
    refine ⟨ρ, σd, S, w1, S1, hs, he, h1, fun ρ1 v1 H1 e1 s1 r1 => ⟨hT ρ1 H1 S1 w1 v1 s1 r1 ht, ρ1, σd, S1, ws, S2, s1, he.ext e1, h2, fun ρ2 vs H2 e2 s2 r2 => ?_⟩⟩
    exact ⟨ρ2, S2, w1, ws, w, S', s2, r1.ext e2, r2, hm, fun ρ3 z H3 e3 s3 r3 => q ρ3 z H3 ((e1.trans e2).trans e3) s3 r3⟩
  · cases hm
theorem d_meth0 {o : Expr} {name : Str} {apos cpos : Pos} {T id : String} {g : GM} {ty : Sto → W → Bool} {mo : ME} (pa : PlainAttrs T) (slot : Slot T name id) (hty : typeOf (.builtin id) = pure (.type "method_descriptor")) (hm : MtD X id g) (hT : TyD X T ty) (ho : PD X o mo)
    (hbase : attributeBase o name X.env (eval o X.env) = eval o X.env := by rfl) (hline : (apos.endLine == cpos.line) = true := by rfl) :
    PD X (.Call (.Attribute o name apos) [] [] cpos) (mMeth ty g mo mNil) := peImp (pe_bm0 pa slot hty hm ho hbase hline) fun σ H Q ⟨ρ, σd, S, w, S', hs, he, hm, q⟩ => by
  obtain ⟨⟨w1, S1⟩, h1, hm⟩ := Option.bind_eq_some_iff.mp hm
  dsimp only at hm
  split at hm
  · rename_i ht
    exact ⟨ρ, σd, S, w1, S1, hs, he, h1, fun ρ1 v1 H1 e1 s1 r1 => ⟨hT ρ1 H1 S1 w1 v1 s1 r1 ht, ρ1, S1, w1, [], w, S', s1, r1, .nil, hm, fun ρ2 z H2 e2 s2 r2 => q ρ2 z H2 (e1.trans e2) s2 r2⟩⟩
  · cases hm

/-! what is walked -/
def ItOk (K : PySem.W.Frag) (ρ0 : Rho) (H0 : Hp) (J : It) (ds : List D) : Prop := ∀ ρ H S, Ext ρ0 H0 ρ H → SRel ρ H S → ∀ i : Nat,
  (ds.length ≤ i → J.stop i H) ∧ ∀ d, ds[i]? = some d → J.go i H ∧ ∀ x H', J.yld i H x H' → Gr H H' ∧ Rep ρ H' d x
theorem ItOk.ext {K : PySem.W.Frag} {ρ ρ' : Rho} {H H' : Hp} {J : It} {ds : List D} (h : ItOk K ρ H J ds) (e : Ext ρ H ρ' H') : ItOk K ρ' H' J ds := fun ρ2 H2 S e2 s2 => h ρ2 H2 S (e.trans e2) s2
abbrev MI := Env → Sto → Option (List D × Sto)
def iD (K : PySem.W.Frag) (m : MI) : TI := fun σ H R => ∃ ρ σd S ds S', SRel ρ H S ∧ RelE K ρ H σd σ ∧ m σd S = some (ds, S') ∧ ∀ ρ' J H', Ext ρ H ρ' H' → SRel ρ' H' S' → ItOk K ρ' H' J ds → R J H'
abbrev PDI (X : Cx) (tg e : Expr) (m : MI) : Prop := PI X tg e (iD X.K m)
theorem piImp {tg : Expr} {t t' : TI} (h : PI X tg e t) (i : ∀ σ H R, t' σ H R → t σ H R) : PI X tg e t' := ⟨fun pins s σ H R I q => h.run pins s σ H R I (i σ H R q)⟩
/-- a list that nobody changes -/
@[simp] def asP : W → Option (List D)
  | .d (.list xs) => some xs
  | _ => none
@[simp] def iL (m : ME) : MI := fun σ S => (m σ S).bind fun r => (asP r.1).map fun ds => (ds, r.2)
theorem SqL.inj1 {K : PySem.W.Frag} {H : Hp} {a : Addr} {xs ys : List V} (h : H a = some (.lst xs)) (n : K.lookup a = none) (q : SqL K H a ys) : ys = xs := by
  rcases q with (q | ⟨o, q⟩) | ⟨o, its, k, q, _⟩
  · rw [h] at q; cases q; rfl
  · rw [h] at q; cases q
  · rw [n] at q; cases q
end
end DL

set_option Elab.async false
set_option linter.all false
set_option maxRecDepth 100000
set_option autoImplicit false
/-! The data layer, 4: what is walked, loops, comprehensions, defs. -/
noncomputable section
namespace DL
open PySem PySem.Spec PyProof.Rows L2

section
variable {K : PySem.W.Frag} {ρ : Rho} {H : Hp} {S : Sto}
/-- a list or tuple whose items stand, whatever comes -/
theorem lst_stays {a : Addr} {vs : List V} (h : H a = some (.lst vs)) (n : ρ.Fr a) {ρ' : Rho} {H' : Hp} (e : Ext ρ H ρ' H') : SqL K H' a vs := .inl (.inl (e.at h n).1)
theorem itl_ok {a : Addr} {ds : List D} {vs : List V} (h : ∀ ρ' H', Ext ρ H ρ' H' → SqL K H' a vs) (r : RepL ρ H ds vs) : ItOk K ρ H (Itl K a) ds := fun ρ' H' S' e s i => by
  have q := h ρ' H' e
  have rl := r.length
  refine ⟨fun hl => ⟨vs, q, by omega⟩, fun d hd => ?_⟩
  obtain ⟨v, hv, rv⟩ := r.get hd
  refine ⟨⟨vs, v, q, hv⟩, fun x H'' y => ?_⟩
  obtain ⟨rfl, y⟩ := y
  have := y vs q
  rw [hv] at this; cases this
  exact ⟨Gr.refl, rv.ext e⟩
theorem itt_ok {a : Addr} {ds : List D} {vs : List V} (h : ∀ ρ' H', Ext ρ H ρ' H' → SqT K H' a vs) (r : RepL ρ H ds vs) : ItOk K ρ H (Itt K a) ds := fun ρ' H' S' e s i => by
  have q := h ρ' H' e
  have rl := r.length
  refine ⟨fun hl => ⟨vs, q, by omega⟩, fun d hd => ?_⟩
  obtain ⟨v, hv, rv⟩ := r.get hd
  refine ⟨⟨vs, v, q, hv⟩, fun x H'' y => ?_⟩
  obtain ⟨rfl, y⟩ := y
  have := y vs q
  rw [hv] at this; cases this
  exact ⟨Gr.refl, rv.ext e⟩
def rangeD (lo : Int) : Nat → List D
  | 0 => []
  | n + 1 => .int lo :: rangeD (lo + 1) n
theorem rangeD_len (n : Nat) : ∀ lo, (rangeD lo n).length = n := by
  induction n with
  | zero => intro; rfl
  | succ n ih => intro lo; simp [rangeD, ih]
theorem rangeD_get : ∀ (n i : Nat) (lo : Int), i < n → (rangeD lo n)[i]? = some (.int (lo + i)) := by
  intro n
  induction n with
  | zero => intro i lo h; omega
  | succ n ih =>
    intro i lo h
    cases i with
    | zero => simp [rangeD]
    | succ i =>
      simp only [rangeD, List.getElem?_cons_succ]
      rw [ih i (lo + 1) (by omega)]
      congr 2
      omega
theorem itr_ok {lo : Int} {n : Nat} : ItOk K ρ H (Itr lo n) (rangeD lo n) := fun ρ' H' S' e s i => by
  refine ⟨fun hl => by rw [rangeD_len] at hl; exact hl, fun d hd => ?_⟩
  have hi : i < n := by
    have := (List.getElem?_eq_some_iff.mp hd).1
    rw [rangeD_len] at this; exact this
  rw [rangeD_get n i lo hi] at hd
  cases hd
  refine ⟨hi, fun x H'' y => ?_⟩
  obtain ⟨rfl, rfl⟩ := y
  exact ⟨Gr.refl, .int _⟩
def enumD (lo : Nat) : List D → List D
  | [] => []
  | d :: ds => .tuple [.int lo, d] :: enumD (lo + 1) ds
theorem enumD_get : ∀ (ds : List D) (lo i : Nat), (enumD lo ds)[i]? = ds[i]?.map fun d => PyData.tuple [.int ((lo + i : Nat) : Int), d] := by
  intro ds
  induction ds with
  | nil => intro lo i; rfl
  | cons d ds ih =>
    intro lo i
    cases i with
    | zero => rfl
    | succ i =>
      simp only [enumD, List.getElem?_cons_succ]
      rw [ih]
      congr 1
      funext d
      congr 3
      omega
theorem enumD_len (ds : List D) : ∀ lo, (enumD lo ds).length = ds.length := by
  induction ds with
  | nil => intro; rfl
  | cons d ds ih => intro lo; simp [enumD, ih]
theorem ite_ok {a : Addr} {ds : List D} {vs : List V} (h : ∀ ρ' H', Ext ρ H ρ' H' → SqL K H' a vs) (r : RepL ρ H ds vs) : ItOk K ρ H (Ite K a) (enumD 0 ds) := fun ρ' H' S' e s i => by
  have q := h ρ' H' e
  have rl := r.length
  refine ⟨fun hl => ⟨vs, q, by rw [enumD_len] at hl; omega⟩, fun d hd => ?_⟩
  rw [enumD_get, Option.map_eq_some_iff] at hd
  obtain ⟨d0, hd, rfl⟩ := hd
  obtain ⟨v, hv, rv⟩ := r.get hd
  refine ⟨⟨vs, v, q, hv⟩, fun x H'' y => ?_⟩
  obtain ⟨T, x0, rfl, hT, rfl, y⟩ := y
  have := y vs q
  rw [hv] at this; cases this
  refine ⟨Gr.new hT, .tup upd_same (s.fresh hT) (.cons ?_ (.cons ((rv.ext e).ext (Ext.new hT)) .nil))⟩
  rw [Nat.zero_add]
  exact .int _
def zipD : List D → List D → List D
  | a :: as, b :: bs => .tuple [a, b] :: zipD as bs
  | _, _ => []
theorem zipD_get : ∀ (as bs : List D) (i : Nat) (d : D), (zipD as bs)[i]? = some d → ∃ x y, as[i]? = some x ∧ bs[i]? = some y ∧ d = .tuple [x, y] := by
  intro as
  induction as with
  | nil => intro bs i d h; simp [zipD] at h
  | cons a as ih =>
    intro bs i d h
    cases bs with
    | nil => simp [zipD] at h
    | cons b bs =>
      cases i with
      | zero => simp [zipD] at h; exact ⟨a, b, rfl, rfl, h.symm⟩
      | succ i => simp only [zipD, List.getElem?_cons_succ] at h ⊢; exact ih bs i d h
theorem zipD_len : ∀ (as bs : List D), (zipD as bs).length = min as.length bs.length := by
  intro as
  induction as with
  | nil => intro bs; simp [zipD]
  | cons a as ih => intro bs; cases bs with | nil => simp [zipD] | cons b bs => simp [zipD, ih]
theorem itz_ok {a b : Addr} {ds es : List D} {vs us : List V} (h : ∀ ρ' H', Ext ρ H ρ' H' → SqL K H' a vs) (h' : ∀ ρ' H', Ext ρ H ρ' H' → SqL K H' b us) (r : RepL ρ H ds vs) (r' : RepL ρ H es us) : ItOk K ρ H (Itz K a b) (zipD ds es) := fun ρ' H' S' e s i => by
  have q := h ρ' H' e
  have q' := h' ρ' H' e
  have rl := r.length
  have rl' := r'.length
  refine ⟨fun hl => ⟨vs, us, q, q', by rw [zipD_len] at hl; omega⟩, fun d hd => ?_⟩
  obtain ⟨x, y, hx, hy, rfl⟩ := zipD_get _ _ _ _ hd
  obtain ⟨v, hv, rv⟩ := r.get hx
  obtain ⟨u, hu, ru⟩ := r'.get hy
  refine ⟨⟨vs, us, v, u, q, q', hv, hu⟩, fun x0 H'' y0 => ?_⟩
  obtain ⟨T, x1, y1, rfl, hT, rfl, z1, z2⟩ := y0
  have t1 := z1 vs q
  rw [hv] at t1; cases t1
  have t2 := z2 us q'
  rw [hu] at t2; cases t2
  exact ⟨Gr.new hT, .tup upd_same (s.fresh hT) (.cons ((rv.ext e).ext (Ext.new hT)) (.cons ((ru.ext e).ext (Ext.new hT)) .nil))⟩
theorem itzT_ok {a b : Addr} {ds es : List D} {vs us : List V} (h : ∀ ρ' H', Ext ρ H ρ' H' → SqT K H' a vs) (h' : ∀ ρ' H', Ext ρ H ρ' H' → SqT K H' b us) (r : RepL ρ H ds vs) (r' : RepL ρ H es us) : ItOk K ρ H (RZ.ItzT K a b) (zipD ds es) := fun ρ' H' S' e s i => by
  have q := h ρ' H' e
  have q' := h' ρ' H' e
  have rl := r.length
  have rl' := r'.length
  refine ⟨fun hl => ⟨vs, us, q, q', by rw [zipD_len] at hl; omega⟩, fun d hd => ?_⟩
  obtain ⟨x, y, hx, hy, rfl⟩ := zipD_get _ _ _ _ hd
  obtain ⟨v, hv, rv⟩ := r.get hx
  obtain ⟨u, hu, ru⟩ := r'.get hy
  refine ⟨⟨vs, us, v, u, q, q', hv, hu⟩, fun x0 H'' y0 => ?_⟩
  obtain ⟨T, x1, y1, rfl, hT, rfl, z1, z2⟩ := y0
  have t1 := z1 vs q
  rw [hv] at t1; cases t1
  have t2 := z2 us q'
  rw [hu] at t2; cases t2
  exact ⟨Gr.new hT, .tup upd_same (s.fresh hT) (.cons ((rv.ext e).ext (Ext.new hT)) (.cons ((ru.ext e).ext (Ext.new hT)) .nil))⟩
theorem itv_ok {a : Addr} {ds : List D} {vs : List V} (h : ∀ ρ' H', Ext ρ H ρ' H' → SqL K H' a vs) (r : RepL ρ H ds vs) : ItOk K ρ H (Itv K a vs.length) ds.reverse := fun ρ' H' S' e s i => by
  have q := h ρ' H' e
  have rl := r.length
  refine ⟨fun hl => by rw [List.length_reverse] at hl; show vs.length ≤ i; omega, fun d hd => ?_⟩
  have hi : i < ds.length := by
    have := (List.getElem?_eq_some_iff.mp hd).1
    simpa using this
  rw [List.getElem?_reverse hi] at hd
  obtain ⟨v, hv, rv⟩ := r.get hd
  rw [rl] at hv
  refine ⟨⟨by omega, vs, v, q, hv⟩, fun x H'' y => ?_⟩
  obtain ⟨rfl, y⟩ := y
  have := y vs q
  rw [hv] at this; cases this
  exact ⟨Gr.refl, rv.ext e⟩
end

/-- data that is walked: a list that nobody changes (with its standing) -/
theorem asP_rel {K : PySem.W.Frag} {ρ : Rho} {H : Hp} {w : W} {v : V} {ds : List D} (r : RelW K ρ H w v) (h : asP w = some ds) : ∃ a vs, v = .ref a ∧ (∀ ρ' H', Ext ρ H ρ' H' → SqL K H' a vs) ∧ RepL ρ H ds vs := by
  cases w with
  | d x =>
    cases x with
    | list xs =>
      cases h
      cases r with
      | lst h1 h2 h3 => exact ⟨_, _, rfl, fun ρ' H' e => lst_stays h1 h2 e, h3⟩
    | _ => cases h
  | _ => cases h
theorem asT_stays {K : PySem.W.Frag} {ρ : Rho} {H : Hp} {w : W} {v : V} {ds : List D} (r : RelW K ρ H w v) (h : asT w = some ds) : ∃ a vs, v = .ref a ∧ (∀ ρ' H', Ext ρ H ρ' H' → SqT K H' a vs) ∧ RepL ρ H ds vs := by
  cases w with
  | d x =>
    cases x with
    | tuple xs =>
      cases h
      cases r with
      | tup h1 h2 h3 => exact ⟨_, _, rfl, fun ρ' H' e => .inl (.inl (e.at h1 h2).1), h3⟩
    | _ => cases h
  | ct xs =>
    cases h
    obtain ⟨a, vs, e, h1, h2⟩ := r
    exact ⟨a, vs, e, fun _ H' _ => h1 H', h2.rep⟩
  | _ => cases h
section
variable {X : Cx} {e a b c tg : Expr} {pos : Pos} {st : Stmt} {rest : List Stmt} {es : List Expr}
theorem di_list {m : ME} (he : PD X e m) : PDI X tg e (iL m) := piImp (pi_list he) fun σ H R ⟨ρ, σd, S, ds, S', hs, hE, hm, q⟩ => by
  obtain ⟨⟨w1, S1⟩, h1, hm⟩ := Option.bind_eq_some_iff.mp hm
  rw [Option.map_eq_some_iff] at hm
  obtain ⟨ds', h2, h3⟩ := hm
  cases h3
  refine ⟨ρ, σd, S, w1, S1, hs, hE, h1, fun ρ1 v H1 e1 s1 r1 => ?_⟩
  obtain ⟨a, vs, rfl, hq, hr⟩ := asP_rel r1 h2
  exact ⟨a, rfl, ⟨vs, hq ρ1 H1 .refl⟩, q ρ1 _ H1 e1 s1 (itl_ok hq hr)⟩
@[simp] def iT (m : ME) : MI := fun σ S => (m σ S).bind fun r => (asT r.1).map fun ds => (ds, r.2)
theorem di_tup {m : ME} (he : PD X e m) : PDI X tg e (iT m) := piImp (pi_tup he) fun σ H R ⟨ρ, σd, S, ds, S', hs, hE, hm, q⟩ => by
  obtain ⟨⟨w1, S1⟩, h1, hm⟩ := Option.bind_eq_some_iff.mp hm
  rw [Option.map_eq_some_iff] at hm
  obtain ⟨ds', h2, h3⟩ := hm
  cases h3
  refine ⟨ρ, σd, S, w1, S1, hs, hE, h1, fun ρ1 v H1 e1 s1 r1 => ?_⟩
  obtain ⟨a, vs, rfl, hq, hr⟩ := asT_stays r1 h2
  exact ⟨a, rfl, ⟨vs, hq ρ1 H1 .refl⟩, q ρ1 _ H1 e1 s1 (itt_ok hq hr)⟩
/-- a list or a tuple -/
def big62 (i : Int) : Bool := says (-(2 ^ 62) ≤ i ∧ i < 2 ^ 62)
@[simp] def iR1 (m : MA) : MI := fun σ S => (m σ S).bind fun r => match r.1 with
  | [.d (.int j)] => if big62 j = true then some (rangeD 0 j.toNat, r.2) else none
  | _ => none
@[simp] def iR2 (m : MA) : MI := fun σ S => (m σ S).bind fun r => match r.1 with
  | [.d (.int i), .d (.int j)] => if (big62 i && big62 j) = true then some (rangeD i (j - i).toNat, r.2) else none
  | _ => none
theorem di_range1 {m : MA} {p : Pos} (hg : Gl X "range") (hm : X.mg "range" = none) (ha : PDA X [a] m) (hs : starEach [a] X.env = [(false, eval a X.env)] := by rfl) : PDI X tg (.Call (.Name "range" p) [a] [] pos) (iR1 m) :=
  piImp (pi_range1 hg hm ha hs) fun σ H R ⟨ρ, σd, S, ds, S', hs, hE, hm, q⟩ => by
    obtain ⟨⟨ws, S1⟩, h1, hm⟩ := Option.bind_eq_some_iff.mp hm
    dsimp only at hm
    split at hm
    · rename_i j
      obtain ⟨hb, hm⟩ := some_if hm
      cases hm
      have hb' := says_of hb
      refine ⟨ρ, σd, S, _, _, hs, hE, h1, fun ρ1 vs H1 e1 s1 r1 => ?_⟩
      obtain ⟨v, rfl, r⟩ := r1.one
      cases r
      exact ⟨j, rfl, hb'.1, hb'.2, q ρ1 _ H1 e1 s1 itr_ok⟩
    · cases hm
theorem di_range2 {m : MA} {p : Pos} (hg : Gl X "range") (hm : X.mg "range" = none) (ha : PDA X [a, b] m) (hs : starEach [a, b] X.env = [(false, eval a X.env), (false, eval b X.env)] := by rfl) (hs2 : starEach [b] X.env = [(false, eval b X.env)] := by rfl) : PDI X tg (.Call (.Name "range" p) [a, b] [] pos) (iR2 m) :=
  piImp (pi_range2 hg hm ha hs hs2) fun σ H R ⟨ρ, σd, S, ds, S', hs, hE, hm, q⟩ => by
    obtain ⟨⟨ws, S1⟩, h1, hm⟩ := Option.bind_eq_some_iff.mp hm
    dsimp only at hm
    split at hm
    · rename_i i j
      obtain ⟨hb, hm⟩ := some_if hm
      cases hm
      rw [Bool.and_eq_true] at hb
      have hb1 := says_of hb.1
      have hb2 := says_of hb.2
      refine ⟨ρ, σd, S, _, _, hs, hE, h1, fun ρ1 vs H1 e1 s1 r1 => ?_⟩
      obtain ⟨v, u, rfl, r, r'⟩ := r1.two
      cases r
      cases r'
      exact ⟨i, j, rfl, ⟨hb1.1, hb1.2, hb2.1, hb2.2⟩, q ρ1 _ H1 e1 s1 itr_ok⟩
    · cases hm
def iEnumD (m : MA) : MI := fun σ S => (m σ S).bind fun r => match r.1 with
  | [w] => (asP w).map fun ds => (enumD 0 ds, r.2)
  | _ => none
theorem di_enum {m : MA} {p tpos : Pos} {elts : List Expr} {kk : Nat} (hg : Gl X "enumerate") (hm : X.mg "enumerate" = none) (ha : PDA X [e] m) (hs : starEach [e] X.env = [(false, eval e X.env)] := by rfl) :
    PDI X (.Tuple elts kk tpos) (.Call (.Name "enumerate" p) [e] [] pos) (iEnumD m) := piImp (pi_enum hg hm ha hs) fun σ H R ⟨ρ, σd, S, ds, S', hs, hE, hm, q⟩ => by
  obtain ⟨⟨ws, S1⟩, h1, hm⟩ := Option.bind_eq_some_iff.mp hm
  dsimp only at hm
  split at hm
  · rename_i w
    rw [Option.map_eq_some_iff] at hm
    obtain ⟨ds', h2, h3⟩ := hm
    cases h3
    refine ⟨ρ, σd, S, _, _, hs, hE, h1, fun ρ1 vs H1 e1 s1 r1 => ?_⟩
    obtain ⟨v, rfl, r⟩ := r1.one
    obtain ⟨a, us, rfl, hq, hr⟩ := asP_rel r h2
    exact ⟨a, us, rfl, hq ρ1 H1 .refl, q ρ1 _ H1 e1 s1 (ite_ok hq hr)⟩
  · cases hm
def iZipD (m : MA) : MI := fun σ S => (m σ S).bind fun r => match r.1 with
  | [u, v] => match asP u, asP v with
    | some ds, some es => some (zipD ds es, r.2)
    | _, _ => match asT u, asT v with
      | some ds, some es => some (zipD ds es, r.2)
      | _, _ => none
  | _ => none
theorem di_zip {e2 : Expr} {m : MA} {p tpos : Pos} {elts : List Expr} {kk : Nat} (hg : Gl X "zip") (hm : X.mg "zip" = none) (ha : PDA X [e, e2] m)
    (hs : starEach [e, e2] X.env = (false, eval e X.env) :: starEach [e2] X.env := by rfl) (hpl : (backTo pos (starEach [e2] X.env)).any (·.1) = false := by rfl) :
    PDI X (.Tuple elts kk tpos) (.Call (.Name "zip" p) [e, e2] [] pos) (iZipD m) := piImp (RZ.pi_zipA hg hm ha hs hpl) fun σ H R ⟨ρ, σd, S, ds, S', hs, hE, hm, q⟩ => by
  obtain ⟨⟨ws, S1⟩, h1, hm⟩ := Option.bind_eq_some_iff.mp hm
  dsimp only at hm
  split at hm
  · rename_i u v
    refine ⟨ρ, σd, S, _, _, hs, hE, h1, fun ρ1 vs H1 e1 s1 r1 => ?_⟩
    obtain ⟨x, y, rfl, rx, ry⟩ := r1.two
    split at hm
    · rename_i ds' es' h2 h3
      cases hm
      obtain ⟨a, us, rfl, hq, hr⟩ := asP_rel rx h2
      obtain ⟨a', us', rfl, hq', hr'⟩ := asP_rel ry h3
      exact ⟨a, a', us, us', rfl, .inl ⟨hq ρ1 H1 .refl, hq' ρ1 H1 .refl, q ρ1 _ H1 e1 s1 (itz_ok hq hq' hr hr')⟩⟩
    · split at hm
      · rename_i ds' es' h2 h3
        cases hm
        obtain ⟨a, us, rfl, hq, hr⟩ := asT_stays rx h2
        obtain ⟨a', us', rfl, hq', hr'⟩ := asT_stays ry h3
        exact ⟨a, a', us, us', rfl, .inr ⟨hq ρ1 H1 .refl, hq' ρ1 H1 .refl, q ρ1 _ H1 e1 s1 (itzT_ok hq hq' hr hr')⟩⟩
      · cases hm
  · cases hm

/-! for -/
@[simp] def forM (g : MG) (b : MS) : List D → MS
  | [], σ, S => some (.nx σ S)
  | d :: ds, σ, S => (g (.d d) σ).bind fun σ1 => (b σ1 S).bind fun o => match o with
    | .nx σ2 S2 => forM g b ds σ2 S2
    | .ct σ2 S2 => forM g b ds σ2 S2
    | .bk σ2 S2 => some (.nx σ2 S2)
    | .rt w S2 => some (.rt w S2)
@[simp] def mFor (mi : MI) (g : MG) (b : MS) : MS := fun σ S => (mi σ S).bind fun r => forM g b r.1 σ r.2
theorem for_of {K : PySem.W.Frag} {mi : MI} {g : MG} {mb : MS} {D' : Ends} {σ : L2.St} {H : Hp} (h : sD K (mFor mi g mb) D' σ H) : tFor (iD K mi) (gD K g) (sD K mb) D' σ H := by
  obtain ⟨ρ, σd, S, out, hs, he, hm, q⟩ := h
  obtain ⟨⟨ds, S1⟩, h1, hm⟩ := Option.bind_eq_some_iff.mp hm
  refine ⟨ρ, σd, S, ds, S1, hs, he, h1, fun ρ1 J H1 e1 s1 iok => ?_⟩
  refine ⟨fun i m σ H => m = ds.length - i ∧ ∃ ρ' σd' S', Ext ρ1 H1 ρ' H ∧ SRel ρ' H S' ∧ RelE K ρ' H σd' σ ∧ forM g mb (ds.drop i) σd' S' = some out, ⟨ds.length, rfl, ρ1, σd, S1, .refl, s1, he.ext e1, by simpa using hm⟩, ?_⟩
  rintro i m σ2 H2 ⟨rfl, ρ2, σd2, S2, e2, s2, he2, hf⟩
  obtain ⟨stop, go⟩ := iok ρ2 H2 S2 e2 s2 i
  by_cases hi : i < ds.length
  · obtain ⟨d, hd⟩ : ∃ d, ds[i]? = some d := ⟨ds[i], by simp [hi]⟩
    obtain ⟨hgo, hy⟩ := go d hd
    have hdr : ds.drop i = d :: ds.drop (i + 1) := by
      rw [List.drop_eq_getElem_cons hi]
      congr 1
      have := List.getElem?_eq_getElem hi
      rw [this] at hd
      exact Option.some.inj hd
    rw [hdr] at hf
    obtain ⟨σ3, h3, hf⟩ := Option.bind_eq_some_iff.mp hf
    obtain ⟨o, h4, hf⟩ := Option.bind_eq_some_iff.mp hf
    refine .inr ⟨hgo, fun σ' H' => ∃ ρ' σd' S', Ext ρ1 H1 ρ' H' ∧ SRel ρ' H' S' ∧ RelE K ρ' H' σd' σ' ∧ forM g mb (ds.drop (i + 1)) σd' S' = some out, ?_, ?_⟩
    · rintro σ' H' hN
      exact ⟨ds.length - (i + 1), by omega, rfl, hN⟩
    · intro x H3 hyl
      obtain ⟨gr, rx⟩ := hy x H3 hyl
      have e3 : Ext ρ2 H2 ρ2 H3 := Ext.gr gr
      refine ⟨ρ2, σd2, S2, .d d, σ3, s2.gr gr, he2.ext e3, rx, h3, fun ρ4 σ4 H4 e4 s4 r4 => ?_⟩
      refine ⟨ρ4, σ3, S2, o, s4, r4, h4, ?_⟩
      have e14 : Ext ρ1 H1 ρ4 H4 := (e2.trans e3).trans e4
      cases o with
      | nx σ5 S5 => exact fun ρ6 σ6 H6 e6 s6 r6 => ⟨ρ6, σ5, S5, e14.trans e6, s6, r6, hf⟩
      | ct σ5 S5 => exact fun ρ6 σ6 H6 e6 s6 r6 => ⟨ρ6, σ5, S5, e14.trans e6, s6, r6, hf⟩
      | bk σ5 S5 =>
        cases hf
        exact fun ρ6 σ6 H6 e6 s6 r6 => q ρ6 σ6 H6 ((e1.trans e14).trans e6) s6 r6
      | rt w S5 =>
        cases hf
        exact fun ρ6 σ6 H6 e6 s6 r6 => q ρ6 σ6 H6 ((e1.trans e14).trans e6) s6 r6
  · have : ds.drop i = [] := List.drop_eq_nil_of_le (by omega)
    rw [this] at hf
    cases hf
    exact .inl ⟨stop (by omega), q ρ2 σ2 H2 (e1.trans e2) s2 he2⟩
theorem d_for {iter : Expr} {body : List Stmt} {mi : MI} {g : MG} {mb : MS} (hp : PassesOwn (model X.prog X.w) X.A X.env X.xe) (hc : X.calm = true) (hi : PDI X tg iter mi) (hg : PDG X tg g) (hb : PDSs X body mb)
    (hs : ∀ x, foldedSetIterable iter X.env x = pure x := by intro _; rfl) : PDS X (.For tg iter body [] pos) (mFor mi g mb) := psImp (ps_for hp hc hi hg hb hs) fun _ _ _ h => for_of h

/-! while -/
def whileM (c : MT) (b : MS) : Nat → MS
  | 0, _, _ => none
  | n + 1, σ, S => (c σ S).bind fun r => if r.1 = true then (b σ r.2).bind fun o => match o with
    | .nx σ2 S2 => whileM c b n σ2 S2
    | .ct σ2 S2 => whileM c b n σ2 S2
    | .bk σ2 S2 => some (.nx σ2 S2)
    | .rt w S2 => some (.rt w S2)
    else some (.nx σ r.2)
theorem d_while (n : Nat) {body : List Stmt} {mc : MT} {mb : MS} (hp : PassesOwn (model X.prog X.w) X.A X.env X.xe) (hc : PDT X c mc) (hb : PDSs X body mb) : PDS X (.While c body [] pos) (whileM mc mb n) :=
  psImp (ps_while hp hc hb) fun D σ H ⟨ρ, σd, S, out, hs, he, hm, q⟩ => by
    refine ⟨fun m σ H' => ∃ ρ' σd' S', Ext ρ H ρ' H' ∧ SRel ρ' H' S' ∧ RelE X.K ρ' H' σd' σ ∧ whileM mc mb m σd' S' = some out, ⟨n, ρ, σd, S, .refl, hs, he, hm⟩, ?_⟩
    rintro m σ1 H1 ⟨ρ1, σd1, S1, e1, s1, he1, hm1⟩
    cases m with
    | zero => cases hm1
    | succ m =>
      obtain ⟨⟨k, S2⟩, h2, hm1⟩ := Option.bind_eq_some_iff.mp hm1
      refine ⟨ρ1, σd1, S1, k, S2, s1, he1, h2, fun ρ2 H2 e2 s2 => ?_⟩
      cases k with
      | true =>
        rw [if_pos rfl] at hm1 ⊢
        obtain ⟨o, h3, hm1⟩ := Option.bind_eq_some_iff.mp hm1
        refine ⟨fun σ H' => ∃ ρ' σd' S', Ext ρ H ρ' H' ∧ SRel ρ' H' S' ∧ RelE X.K ρ' H' σd' σ ∧ whileM mc mb m σd' S' = some out, fun σ' H' hN => ⟨m, by omega, hN⟩, ρ2, σd1, S2, o, s2, he1.ext e2, h3, ?_⟩
        have e12 := e1.trans e2
        cases o with
        | nx σ5 S5 => exact fun ρ6 σ6 H6 e6 s6 r6 => ⟨ρ6, σ5, S5, e12.trans e6, s6, r6, hm1⟩
        | ct σ5 S5 => exact fun ρ6 σ6 H6 e6 s6 r6 => ⟨ρ6, σ5, S5, e12.trans e6, s6, r6, hm1⟩
        | bk σ5 S5 =>
          cases hm1
          exact fun ρ6 σ6 H6 e6 s6 r6 => q ρ6 σ6 H6 (e12.trans e6) s6 r6
        | rt w S5 =>
          cases hm1
          exact fun ρ6 σ6 H6 e6 s6 r6 => q ρ6 σ6 H6 (e12.trans e6) s6 r6
      | false =>
        rw [if_neg Bool.false_ne_true] at hm1 ⊢
        cases hm1
        exact q ρ2 σ1 H2 (e1.trans e2) s2 (he1.ext e2)

/-! comprehensions -/
@[simp] def wipeD (σ : Env) : List Nat → Env
  | [] => σ
  | v :: vs => (wipeD σ vs).set v none
theorem RelE.none {K : PySem.W.Frag} {ρ : Rho} {H : Hp} {σd : Env} {σ : L2.St} (h : RelE K ρ H σd σ) (i : Nat) : RelE K ρ H (σd.set i none) (σ.set i none) := by
  refine ⟨by simp [h.len], fun j u e => ?_⟩
  by_cases hj : i = j
  · subst hj
    rw [List.getElem?_set] at e
    rw [if_pos rfl] at e
    split at e <;> cases e
  · rw [List.getElem?_set_ne hj] at e
    obtain ⟨x, h1, h2⟩ := h.get j u e
    exact ⟨x, by rw [List.getElem?_set_ne hj]; exact h1, h2⟩
theorem RelE.wipe {K : PySem.W.Frag} {ρ : Rho} {H : Hp} {σd : Env} {σ : L2.St} (h : RelE K ρ H σd σ) : ∀ vs : List Nat, RelE K ρ H (wipeD σd vs) (L2.wipe σ vs)
  | [] => h
  | v :: vs => (RelE.wipe h vs).none v
abbrev PDTs (X : Cx) (ifs : List Expr) (m : MT) : Prop := PTs X ifs (tDT X.K m)
theorem ptsImp {ifs : List Expr} {t t' : TT} (h : PTs X ifs t) (i : ∀ σ H Q, t' σ H Q → t σ H Q) : PTs X ifs t' := ⟨fun pins s σ H Q I q => h.run pins s σ H Q I (i σ H Q q)⟩
@[simp] def mYes : MT := fun _ S => some (true, S)
theorem dts_nil : PDTs X [] mYes := ptsImp pts_nil fun σ H Q ⟨ρ, σd, S, k, S', hs, he, hm, q⟩ => by
  cases hm
  exact q ρ H .refl hs
theorem dts_one {mt : MT} (h : PDT X c mt) : PDTs X [c] mt := pts_one h
@[simp] def compM (g : MG) (t : MT) (m : ME) : List D → Env → Sto → List D → Option (List D × Sto)
  | [], _, S, acc => some (acc, S)
  | d :: ds, σ, S, acc => (g (.d d) σ).bind fun σ1 => (t σ1 S).bind fun k => if k.1 = true then (m σ1 k.2).bind fun r => (asD1 r.1).bind fun x => if fits (acc.length + 1) = true then compM g t m ds σ r.2 (acc ++ [x]) else none
    else compM g t m ds σ k.2 acc
@[simp] def mComp (mi : MI) (g : MG) (t : MT) (m : ME) (vs : List Nat) : ME := fun σ S => (mi σ S).bind fun r => (compM g t m r.1 (wipeD σ vs) r.2 []).map fun q => (.d (.list q.1), q.2)
/-! the slots of a block -/
theorem wipe_get {σ : L2.St} {j : Nat} : ∀ {vs : List Nat}, (L2.wipe σ vs)[j]? = if j ∈ vs then (σ[j]?).map fun _ => none else σ[j]?
  | [] => by simp [L2.wipe]
  | v :: vs => by
    unfold L2.wipe
    by_cases hj : v = j
    · subst hj
      rw [List.getElem?_set]
      rw [if_pos rfl, L2.wipe_length, if_pos List.mem_cons_self]
      split
      · rename_i h; simp [h]
      · rename_i h; simp [h]
    · rw [List.getElem?_set_ne hj, wipe_get (vs := vs)]
      by_cases h : j ∈ vs
      · rw [if_pos h, if_pos (List.mem_cons_of_mem _ h)]
      · rw [if_neg h, if_neg (by simp only [List.mem_cons, not_or]; exact ⟨fun e => hj e.symm, h⟩)]
theorem wipe_idem (σ : L2.St) (vs : List Nat) : L2.wipe (L2.wipe σ vs) vs = L2.wipe σ vs := by
  apply List.ext_getElem?
  intro j
  rw [wipe_get, wipe_get]
  by_cases h : j ∈ vs
  · rw [if_pos h, if_pos h, Option.map_map]; rfl
  · rw [if_neg h, if_neg h]
theorem wipe_set (σ : L2.St) (vs : List Nat) (i : Nat) (x : Option V) (h : i ∈ vs) : L2.wipe (σ.set i x) vs = L2.wipe σ vs := by
  apply List.ext_getElem?
  intro j
  rw [wipe_get, wipe_get]
  by_cases hj : j ∈ vs
  · rw [if_pos hj, if_pos hj]
    by_cases e : i = j
    · subst e
      rw [List.getElem?_set, if_pos rfl]
      split
      · rename_i hl; simp [hl]
      · rename_i hl; simp [hl]
    · rw [List.getElem?_set_ne e]
  · rw [if_neg hj, if_neg hj]
    rw [List.getElem?_set_ne (by rintro rfl; exact hj h)]
/-- a target within a comprehension: it stores into the block's own slots alone -/
def gC (K : PySem.W.Frag) (vs : List Nat) (g : MG) : TG := fun v σ H Q => ∃ ρ σd S w σ1, SRel ρ H S ∧ RelE K ρ H σd σ ∧ RelW K ρ H w v ∧ g w σd = some σ1 ∧ ∀ ρ' σ' H', Ext ρ H ρ' H' → SRel ρ' H' S → RelE K ρ' H' σ1 σ' → L2.wipe σ' vs = L2.wipe σ vs → Q σ' H'
abbrev PDGc (X : Cx) (vs : List Nat) (e : Expr) (g : MG) : Prop := PG X e (gC X.K vs g)
theorem dgc_name (i : Nat) {vs : List Nat} {x : Str} (hN : X.N.Nodup) (hx : Loc X.env.scope x) (hi : X.N[i]? = some x) (hv : i ∈ vs) (hf : X.fn x = true ∨ X.env.scope.names.lookup x = some .local) : PDGc X vs (.Name x pos) (gN i) :=
  pgImp (pg_name hN hi hx hf) fun v σ H Q ⟨ρ, σd, S, w, σ1, hs, he, r, hg, q⟩ => by
    cases hg
    exact q ρ _ H .refl hs (he.set r i) (wipe_set σ vs i _ hv)
def gCs (K : PySem.W.Frag) (vs : List Nat) (g : MGs) : TGs := fun us σ H Q => ∃ ρ σd S ds σ1, SRel ρ H S ∧ RelE K ρ H σd σ ∧ RepL ρ H ds us ∧ g ds σd = some σ1 ∧ ∀ ρ' σ' H', Ext ρ H ρ' H' → SRel ρ' H' S → RelE K ρ' H' σ1 σ' → L2.wipe σ' vs = L2.wipe σ vs → Q σ' H'
abbrev PDGcs (X : Cx) (vs : List Nat) (es : List Expr) (g : MGs) : Prop := PGs X es (gCs X.K vs g)
theorem dgcs_nil {vs : List Nat} : PDGcs X vs [] gNil := pgsImp pgs_nil fun us σ H Q ⟨ρ, σd, S, ds, σ1, hs, he, r, hg, q⟩ => by
  cases ds with
  | nil => cases hg; cases r; exact ⟨rfl, q ρ σ H .refl hs he rfl⟩
  | cons d ds => cases hg
theorem dgcs_cons {vs : List Nat} {g : MG} {r : MGs} (h1 : PDGc X vs e g) (h2 : PDGcs X vs es r) (hs : (assignEach (e :: es) X.env).map (·.2) = assign e X.env :: (assignEach es X.env).map (·.2) := by rfl) : PDGcs X vs (e :: es) (gCons g r) :=
  pgsImp (pgs_cons h1 h2 hs) fun us σ H Q ⟨ρ, σd, S, ds, σ1, hs, he, rr, hg, q⟩ => by
    cases ds with
    | nil => cases hg
    | cons d ds =>
      cases rr with
      | cons r1 r2 =>
        obtain ⟨σ2, h3, h4⟩ := Option.bind_eq_some_iff.mp hg
        exact ⟨_, _, rfl, ρ, σd, S, .d d, σ2, hs, he, r1, h3, fun ρ1 σ' H1 e1 s1 q1 w1 => ⟨ρ1, σ2, S, ds, σ1, s1, q1, r2.ext e1, h4, fun ρ2 σ'' H2 e2 s2 q2 w2 => q ρ2 σ'' H2 (e1.trans e2) s2 q2 (w2.trans w1)⟩⟩
theorem dgc_tup {vs : List Nat} {k : Nat} {n : Nat} {r : MGs} (hc : X.calm = true) (h : PDGcs X vs es r) (hn : (assignEach es X.env).length = n := by rfl) (hst : (assignEach es X.env).findIdx? (·.1) = none := by rfl) : PDGc X vs (.Tuple es k pos) (gTup n r) :=
  pgImp (pg_tup hc h hn hst) fun v σ H Q ⟨ρ, σd, S, w, σ1, hs, he, rr, hg, q⟩ => by
    obtain ⟨ds, h1, h2⟩ := Option.bind_eq_some_iff.mp hg
    obtain ⟨a, us, rfl, ht, hr⟩ := asT_rel rr h1
    split at h2
    · rename_i hl
      exact ⟨a, us, rfl, ht, by rw [← hr.length]; exact of_decide_eq_true hl, ρ, σd, S, ds, σ1, hs, he, hr, h2, q⟩
    · cases h2
theorem comp_of {K : PySem.W.Frag} {mi : MI} {g : MG} {mt : MT} {m : ME} {vs : List Nat} {σ : L2.St} {H : Hp} {Q : VK}
    (h : tD K (mComp mi g mt m vs) σ H Q) : tLc (iD K mi) (gC K vs g) (tDT K mt) (tD K m) vs σ H Q := by
  obtain ⟨ρ, σd, S, w, S', hs, he, hm, q⟩ := h
  obtain ⟨⟨ds, S1⟩, h1, hm⟩ := Option.bind_eq_some_iff.mp hm
  rw [Option.map_eq_some_iff] at hm
  obtain ⟨⟨out, S2⟩, h2, h3⟩ := hm
  cases h3
  refine ⟨ρ, σd, S, ds, S1, hs, he, h1, fun ρ1 J H1 e1 s1 iok => ?_⟩
  intro Dd hD
  have hbl := block_mv (ρ := ρ1) (o := .lst []) hD
  have e0 : Ext ρ1 H1 (ρ1.block Dd) (upd H1 Dd (.lst [])) := ⟨fun a o ha na => ⟨(Ext.new (ρ := ρ1) hD).keep a o ha na |>.1, na⟩, fun _ _ _ h => h, Nat.le_refl _, none_of_upd, fun a h => (List.mem_cons.mp h).elim (fun z => .inr (z ▸ hD)) .inl, fun a h => List.mem_cons_of_mem _ h⟩
  refine ⟨fun i n H' => n = ds.length - i ∧ ∃ ρ' S' acc us, Ext ρ1 H1 ρ' H' ∧ Dd ∈ ρ'.b ∧ SRel ρ' H' S' ∧ RelE K ρ' H' (wipeD σd vs) (L2.wipe σ vs) ∧ H' Dd = some (.lst us) ∧ RepL ρ' H' acc us ∧ compM g mt m (ds.drop i) (wipeD σd vs) S' acc = some (out, S2), ?_, ?_⟩
  · exact ⟨ds.length, rfl, ρ1.block Dd, S1, [], [], e0, List.mem_cons_self, s1.blocked hD, ((he.ext e1).wipe vs).mv hbl rfl, upd_same, .nil, by simpa using h2⟩
  rintro i n H2 ⟨rfl, ρ2, S3, acc, us, e2, b2, s2, he2, hD2, ra, hf⟩
  have nD2 : some Dd ∉ ρ2.l := (s2.blk Dd b2).2
  obtain ⟨stop, go⟩ := iok _ H2 S3 e2 s2 i
  by_cases hi : i < ds.length
  · obtain ⟨d, hd⟩ : ∃ d, ds[i]? = some d := ⟨ds[i], by simp [hi]⟩
    obtain ⟨hgo, hy⟩ := go d hd
    have hdr : ds.drop i = d :: ds.drop (i + 1) := by
      rw [List.drop_eq_getElem_cons hi]
      congr 1
      have := List.getElem?_eq_getElem hi
      rw [this] at hd
      exact Option.some.inj hd
    rw [hdr] at hf
    obtain ⟨σ3, h3, hf⟩ := Option.bind_eq_some_iff.mp hf
    obtain ⟨⟨k, S4⟩, h4, hf⟩ := Option.bind_eq_some_iff.mp hf
    refine .inr ⟨hgo, fun H' => ∃ ρ' S' acc us, Ext ρ1 H1 ρ' H' ∧ Dd ∈ ρ'.b ∧ SRel ρ' H' S' ∧ RelE K ρ' H' (wipeD σd vs) (L2.wipe σ vs) ∧ H' Dd = some (.lst us) ∧ RepL ρ' H' acc us ∧ compM g mt m (ds.drop (i + 1)) (wipeD σd vs) S' acc = some (out, S2), fun H' hN => ⟨ds.length - (i + 1), by omega, rfl, hN⟩, ?_⟩
    intro x H3 hyl
    obtain ⟨gr, rx⟩ := hy x H3 hyl
    have e3 : Ext ρ2 H2 ρ2 H3 := Ext.gr gr
    refine ⟨ρ2, wipeD σd vs, S3, .d d, σ3, s2.gr gr, he2.ext e3, rx, h3, fun ρ4 σ4 H4 e4 s4 r4 w4 => ⟨by rw [w4, wipe_idem], ?_⟩⟩
    refine ⟨ρ4, σ3, S3, k, S4, s4, r4, h4, fun ρ5 H5 e5 s5 => ?_⟩
    have e25 : Ext ρ2 H2 ρ5 H5 := (e3.trans e4).trans e5
    obtain ⟨hD5, nD5⟩ := e25.keep _ _ hD2 nD2
    cases k with
    | true =>
      dsimp only at hf ⊢
      rw [if_pos rfl] at hf ⊢
      obtain ⟨⟨w6, S6⟩, h6, hf⟩ := Option.bind_eq_some_iff.mp hf
      obtain ⟨x6, hx6, hf⟩ := Option.bind_eq_some_iff.mp hf
      refine ⟨ρ5, σ3, S4, w6, S6, s5, r4.ext e5, h6, fun ρ6 v6 H6 e6 s6 r6 => ?_⟩
      have e26 := e25.trans e6
      obtain ⟨hD6, nD6⟩ := e26.keep _ _ hD2 nD2
      have b6 := e26.bsub _ b2
      dsimp only at hf
      split at hf
      · rename_i hfit
        have r6' : Rep ρ6 H6 x6 v6 := by
          cases w6 with
          | d y => cases hx6; exact r6
          | _ => cases hx6
        have e16 := e2.trans e26
        refine ⟨us, hD6, by rw [← ra.length]; exact fits_lt hfit, ρ6, S6, acc ++ [x6], us ++ [v6], ?_, b6, s6.blkW b6, (he2.ext e26).mv (blk_mv b6) rfl, upd_same, ?_, hf⟩
        · exact ⟨fun a o ha na => by
            have hne : a ≠ Dd := ne_of_none ha hD
            rw [upd_ne hne]
            exact e16.keep a o ha na, e16.loc, e16.len, fun a h => e16.dom a (none_of_upd a h), e16.bnew, e16.bsub⟩
        · exact ((ra.ext e26).append (.cons r6' .nil)).mv (blk_mv b6)
      · cases hf
    | false =>
      dsimp only at hf ⊢
      rw [if_neg Bool.false_ne_true] at hf ⊢
      exact ⟨ρ5, S4, acc, us, e2.trans e25, e25.bsub _ b2, s5, he2.ext e25, hD5, ra.ext e25, hf⟩
  · have hn : ds.drop i = [] := List.drop_eq_nil_of_le (by omega)
    rw [hn] at hf
    cases hf
    have hsub : ∀ a, a ∈ ρ2.b.filter (fun a => decide (a ≠ Dd)) → a ∈ ρ2.b := fun a h => (List.mem_filter.mp h).1
    have e2' : Ext ρ1 H1 ⟨ρ2.l, ρ2.b.filter (fun a => decide (a ≠ Dd))⟩ H2 := ⟨e2.keep, e2.loc, e2.len, e2.dom, fun a h => e2.bnew a (hsub a h), fun a h => List.mem_filter.mpr ⟨e2.bsub a h, by
      have : a ≠ Dd := fun z => s1.freshb hD (z ▸ h)
      simpa using this⟩⟩
    refine .inl ⟨stop (by omega), q ⟨ρ2.l, ρ2.b.filter (fun a => decide (a ≠ Dd))⟩ _ H2 (e1.trans e2') (s2.unblock hsub) (.lst hD2 ⟨nD2, fun z => ?_⟩ (ra.sub (unblock_fr hsub)))⟩
    have := (List.mem_filter.mp z).2
    simp at this
/-- [elt for target in iter if ..] -/
theorem d_comp {elt iter : Expr} {ifs : List Expr} {scope : Scope} (own : List (Str × Nat)) {mi : MI} {g : MG} {mt : MT} {m : ME} (hc : X.calm = true) (hN : X.N.Nodup) (hi : PDI X tg iter mi) (ok : BlkOk X.N X.env.scope scope own)
    (hg : ∀ (s : Shared) (H : Hp) (C : Addr) (cl : List (Str × Addr)) (fp : List Addr), PDGc (X.blk s H scope (compEnvC scope cl C X.env) fp) (own.map (·.2)) tg g) (ht : ∀ (s : Shared) (H : Hp) (C : Addr) (cl : List (Str × Addr)) (fp : List Addr), PDTs (X.blk s H scope (compEnvC scope cl C X.env) fp) ifs mt)
    (he : ∀ (s : Shared) (H : Hp) (C : Addr) (cl : List (Str × Addr)) (fp : List Addr), PD (X.blk s H scope (compEnvC scope cl C X.env) fp) elt m) (hs : ∀ x, foldedSetIterable iter X.env x = pure x := by intro _; rfl) :
    PD X (.ListComp elt [⟨tg, iter, ifs, 0⟩] scope pos) (mComp mi g mt m (own.map (·.2))) := peImp (pe_lc hc hN hi ok hg ht he hs) fun _ _ _ h => comp_of h
theorem d_setComp (i : Nat) {y : Str} {py spos : Pos} {elt iter : Expr} {ifs : List Expr} {scope : Scope} (own : List (Str × Nat)) {mi : MI} {g : MG} {mt : MT} {m : ME} (hc : X.calm = true) (hN : X.N.Nodup) (hy : X.N[i]? = some y) (hyl : X.env.scope.names.lookup y = some .local)
    (hsw : swapsWith (.ListComp elt [⟨tg, iter, ifs, 0⟩] scope pos) (some (.Name y py)) spos.line X.env = pure true) (hi : PDI X tg iter mi) (ok : BlkOk X.N X.env.scope scope own)
    (hg : ∀ (s : Shared) (H : Hp) (C : Addr) (cl : List (Str × Addr)) (fp : List Addr), PDGc (X.blk s H scope (compEnvC scope cl C X.env) fp) (own.map (·.2)) tg g) (ht : ∀ (s : Shared) (H : Hp) (C : Addr) (cl : List (Str × Addr)) (fp : List Addr), PDTs (X.blk s H scope (compEnvC scope cl C X.env) fp) ifs mt)
    (he : ∀ (s : Shared) (H : Hp) (C : Addr) (cl : List (Str × Addr)) (fp : List Addr), PD (X.blk s H scope (compEnvC scope cl C X.env) fp) elt m) (hs : ∀ x, foldedSetIterable iter X.env x = pure x := by intro _; rfl) :
    PDS X (.Assign [.Name y py] (.ListComp elt [⟨tg, iter, ifs, 0⟩] scope pos) spos) (mAsg i (mComp mi g mt m (own.map (·.2)))) :=
  psImp (ps_setLc hc hN hy hyl hsw hi ok hg ht he hs) fun D σ H h => by
    obtain ⟨ρ, σd, S, out, hs, he, hm, q⟩ := h
    unfold mAsg at hm
    rw [Option.map_eq_some_iff] at hm
    obtain ⟨⟨w, S1⟩, h1, h2⟩ := hm
    cases h2
    exact comp_of ⟨ρ, σd, S, w, S1, hs, he, h1, fun ρ1 v H1 e1 s1 r1 => q ρ1 _ H1 e1 s1 ((he.ext e1).set r1 i)⟩
end

/-! defs -/
abbrev Fn := List W → Sto → Option (W × Sto)
def spD (K : PySem.W.Frag) (n : Nat) (f : Fn) : Sp := fun vs H Q _ => ∃ ρ S ws w S', SRel ρ H S ∧ RelWs K ρ H ws vs ∧ ws.length = n ∧ f ws S = some (w, S') ∧ ∀ ρ' v H', Ext ρ H ρ' H' → SRel ρ' H' S' → RelW K ρ' H' w v → Q v H'
/-- what is left of the store behind a def: what stood ahead of it, and what it hands back -/
def trim (n : Nat) (w : W) (S : Sto) : W × Sto := match w with
  | .loc i => if n ≤ i then (.loc n, S.take n ++ (S[i]?).toList) else (w, S.take n)
  | _ => (w, S.take n)
theorem trim_ok {K : PySem.W.Frag} {ρ ρ' : Rho} {H H' : Hp} {S S' : Sto} {w : W} {v : V} (s : SRel ρ H S) (e : Ext ρ H ρ' H') (s' : SRel ρ' H' S') (r : RelW K ρ' H' w v) :
    ∃ ρ2, Ext ρ H ρ2 H' ∧ SRel ρ2 H' (trim S.length w S').2 ∧ RelW K ρ2 H' (trim S.length w S').1 v := by
  have cut : ∀ (w : W), RelW K ρ' H' w v → (∀ i, w = .loc i → i < S.length) → ∃ ρ2, Ext ρ H ρ2 H' ∧ SRel ρ2 H' (S'.take S.length) ∧ RelW K ρ2 H' w v := fun w r hw => by
    refine ⟨ρ'.cut S.length, e.cut (by rw [s.len]; exact Nat.le_refl _), s'.cut, ?_⟩
    have hk : ∀ a, ρ'.Fr a → (ρ'.cut S.length).Fr a := fun a h => ⟨fun z => h.1 (List.mem_of_mem_take z), h.2⟩
    cases w with
    | d x => exact Rep.sub hk r
    | loc i =>
      have hi := hw i rfl
      refine ⟨?_, fun a ha => ?_⟩
      · show i < (ρ'.l.take S.length).length
        rw [List.length_take]
        have := r.1
        omega
      · have ha' : (ρ'.l.take S.length)[i]? = some (some a) := ha
        rw [List.getElem?_take_of_lt hi] at ha'
        exact r.2 a ha'
    | ct xs => exact r
    | sc ns =>
      obtain ⟨a, e1, h⟩ := r
      exact ⟨a, e1, h.imp (fun ⟨o, h1, h2⟩ => ⟨o, h1, hk a h2⟩) id⟩
    | v x => exact r
    | kd b kvs =>
      obtain ⟨a, us, e1, n, h1, h2, h3⟩ := r
      exact ⟨a, us, e1, hk a n, h1, h2, h3.sub hk⟩
    | td b kvs =>
      obtain ⟨a, us, e1, n, h1, h2, h3⟩ := r
      exact ⟨a, us, e1, hk a n, h1, h2, h3.sub hk⟩
  cases w with
  | loc i =>
    by_cases hi : S.length ≤ i
    · have ht : trim S.length (.loc i) S' = (.loc S.length, S'.take S.length ++ (S'[i]?).toList) := by simp only [trim]; rw [if_pos hi]
      rw [ht]
      refine ⟨ρ'.pick S.length i, e.pick (by rw [s.len]; exact Nat.le_refl _) hi r.1, s'.pick hi r.1, ?_, fun a ha => ?_⟩
      · show S.length < (ρ'.l.take S.length ++ (ρ'.l[i]?).toList).length
        have hlt := r.1
        rw [List.length_append, List.length_take]
        obtain ⟨y, ey⟩ : ∃ y, ρ'.l[i]? = some y := ⟨ρ'.l[i], by simp [hlt]⟩
        rw [ey]
        simp
        omega
      · have ha' : (ρ'.l.take S.length ++ (ρ'.l[i]?).toList)[S.length]? = some (some a) := ha
        rw [at_pick hi r.1] at ha'
        exact r.2 a ha'
    · have ht : trim S.length (.loc i) S' = (.loc i, S'.take S.length) := by simp only [trim]; rw [if_neg hi]
      rw [ht]
      exact cut _ r fun j hj => by cases hj; omega
  | d x => exact cut _ r fun j hj => by cases hj
  | ct x => exact cut _ r fun j hj => by cases hj
  | sc x => exact cut _ r fun j hj => by cases hj
  | v x => exact cut _ r fun j hj => by cases hj
  | kd b x => exact cut _ r fun j hj => by cases hj
  | td b x => exact cut _ r fun j hj => by cases hj
/-- a def by its body: n names in all -/
def fnD (n : Nat) (b : MS) : Fn := fun ws S => (b (ws.map some ++ List.replicate (n - ws.length) none) S).bind fun o => match o with
  | .nx _ S' => some (trim S.length (.d .none) S')
  | .rt w S' => some (trim S.length w S')
  | _ => none
theorem relE_start {K : PySem.W.Frag} {ρ : Rho} {H : Hp} {ws : List W} {vs : List V} (N : List Str) (r : RelWs K ρ H ws vs) : RelE K ρ H (ws.map some ++ List.replicate (N.length - ws.length) none) (L2.start N vs) := by
  have hl := r.length
  refine ⟨by simp [L2.start, hl], fun i w hi => ?_⟩
  have hi' : i < ws.length := by
    by_cases h : i < ws.length
    · exact h
    · rw [List.getElem?_append_right (by simpa using h), List.getElem?_replicate] at hi
      split at hi <;> cases hi
  rw [List.getElem?_append_left (by simpa using hi'), List.getElem?_map] at hi
  have hw : ws[i]? = some w := by
    cases q : ws[i]? with
    | none => rw [q] at hi; cases hi
    | some x => rw [q] at hi; cases hi; rfl
  have get : ∀ {ws : List W} {vs : List V} {i : Nat} {w : W}, RelWs K ρ H ws vs → ws[i]? = some w → ∃ v, vs[i]? = some v ∧ RelW K ρ H w v := by
    intro ws vs i w r
    induction r generalizing i with
    | nil => intro h; simp at h
    | cons a _ ih =>
      intro h
      cases i with
      | zero => simp at h; subst h; exact ⟨_, rfl, a⟩
      | succ i => simp at h; simpa using ih h
  obtain ⟨v, hv, rv⟩ := get r hw
  refine ⟨v, ?_, rv⟩
  unfold L2.start
  rw [List.getElem?_append_left (by rw [List.length_map, ← hl]; exact hi'), List.getElem?_map, hv]
  rfl
section
variable {P : Program} {w : World} {K : PySem.W.Frag} {mg : Str → Option Value} {base : Heap}
theorem spD_len {n : Nat} {f : Fn} {vs : List V} {H : Hp} {Q : VK} {E : XK} (h : spD K n f vs H Q E) : vs.length = n := by
  obtain ⟨ρ, S, ws, w, S', hs, hr, hl, _⟩ := h
  rw [← hr.length]; exact hl
theorem body_of {N ps : List Str} {b : MS} {vs : List V} {H : Hp} {Q : VK} {E : XK} (h : spD K ps.length (fnD N.length b) vs H Q E) : sD K b { nx := fun _ H' => Q .non H', rt := Q } (L2.start N vs) H := by
  obtain ⟨ρ, S, ws, w, S', hs, hr, hl, hf, q⟩ := h
  obtain ⟨o, h1, h2⟩ := Option.bind_eq_some_iff.mp hf
  refine ⟨ρ, _, S, o, hs, relE_start N hr, h1, ?_⟩
  cases o with
  | nx σ1 S1 =>
    refine fun ρ1 σ' H1 e1 s1 r1 => ?_
    obtain ⟨ρ2, e2, s2, r2⟩ := trim_ok (K := K) (w := .d .none) (v := .non) hs e1 s1 .non
    have h2' := Option.some.inj h2
    rw [h2'] at s2 r2
    exact q ρ2 .non H1 e2 s2 r2
  | rt u S1 =>
    refine fun ρ1 v H1 e1 s1 r1 => ?_
    obtain ⟨ρ2, e2, s2, r2⟩ := trim_ok hs e1 s1 r1
    have h2' := Option.some.inj h2
    rw [h2'] at s2 r2
    exact q ρ2 v H1 e2 s2 r2
  | bk σ1 S1 => cases h2
  | ct σ1 S1 => cases h2
/-- THE RULE for a def -/
theorem fn_ok {x qual : Str} {st : Stmt} {f : Addr} {fd : FuncData} {N ps : List Str} {k : Nat} {b : MS} (F : Fun K x qual st f fd) (S : FnScope N ps (defScope st))
    (hb : ∀ (cdv : Value) (A : Around) (outer : List PySem.Env) (s : Shared) (H : Hp) (E : XK), Room k (A.deeper (envOfC qual (defScope st) s.heap.objs.size f cdv)) →
      PDSs (cxOf CX0 P w K mg base N qual (defScope st) f cdv A outer s H E).nox (defBody st) b) : FnOk P w K mg base CX0 (k + 1) f fd ps (spD K ps.length (fnD N.length b)) :=
  F.ok S (fun vs H Q E h => spD_len h) fun cdv A outer s H vs Q E hr h => ⟨_, hb cdv A outer s H E hr, body_of h⟩
end
end DL

set_option Elab.async false
set_option linter.all false
set_option maxRecDepth 100000
set_option autoImplicit false
/-! The data layer, 5: defs that are called where no guard stands (so that repr may be asked), calls, the law's end. -/
noncomputable section
namespace DL
open PySem PySem.Spec PyProof.Rows L2

/-- a promise that is kept where no guard stands -/
structure FnG (P : Program) (w : World) (K : PySem.W.Frag) (mg : Str → Option Value) (base : Heap) (CX : CXT) (k : Nat) (f : Addr) (fd : FuncData) (ps : List Str) (sp : Sp) : Prop where
  len : ∀ vs H Q E, sp vs H Q E → vs.length = ps.length
  run : ∀ (A : Around), A.guards = some [] → Room k A → ∀ (outer : List PySem.Env) (s : Shared) (H : Hp), Env0 P w K mg base A outer s H → ∀ (args : Args) (us : List Value) (vs : List V), BindsTo s fd args (ps.zip us) → Vals vs us →
    ∀ (Q : VK) (E : XK), sp vs H Q E → codeAny (model P w) A (.call (.ref f) args) (CR CX outer P w H s Q E) s

section
variable {P : Program} {w : World} {K : PySem.W.Frag} {mg : Str → Option Value} {base : Heap} {CX : CXT}
theorem FnG.mono {j k : Nat} {f : Addr} {fd : FuncData} {ps : List Str} {sp : Sp} (F : FnG P w K mg base CX j f fd ps sp) (h : j ≤ k) : FnG P w K mg base CX k f fd ps sp :=
  ⟨F.len, fun A g hr => F.run A g (hr.mono h)⟩
theorem FnG.imp {k : Nat} {f : Addr} {fd : FuncData} {ps : List Str} {sp sp' : Sp} (F : FnG P w K mg base CX k f fd ps sp) (h : ∀ vs H Q E, sp' vs H Q E → sp vs H Q E) : FnG P w K mg base CX k f fd ps sp' :=
  ⟨fun vs H Q E q => F.len vs H Q E (h _ _ _ _ q), fun A g hr outer s H e0 args us vs hb hv Q E q => F.run A g hr outer s H e0 args us vs hb hv Q E (h _ _ _ _ q)⟩
/-- what is never asked is kept -/
theorem FnG.never {k : Nat} {f : Addr} {fd : FuncData} {ps : List Str} {sp : Sp} (h : ∀ vs H Q E, ¬ sp vs H Q E) : FnG P w K mg base CX k f fd ps sp :=
  ⟨fun vs H Q E q => (h _ _ _ _ q).elim, fun A g hr outer s H e0 args us vs hb hv Q E q => (h _ _ _ _ q).elim⟩

/-- a def by its body's reading, where no guard stands -/
theorem fnG_of {k : Nat} {f : Addr} {name qual : Str} {params : Arguments} {body : List Stmt} {scope : Scope} {dvs : List V} {kws : List (Str × V)} {fd : FuncData} {N ps : List Str} {sp : Sp} (F : FunD K name qual params body scope dvs kws f fd)
    (S : FnScope N ps scope) (len : ∀ vs H Q E, sp vs H Q E → vs.length = ps.length)
    (hb : ∀ (cdv : Value) (A : Around) (outer : List PySem.Env) (s : Shared) (H : Hp) (vs : List V) (Q : VK) (E : XK), A.guards = some [] → Room k (A.deeper (envOfC qual scope s.heap.objs.size f cdv)) → sp vs H Q E →
      ∃ t, PSs (cxOf CX P w K mg base N qual scope f cdv A outer s H E) body t ∧ t { nx := fun _ H' => Q .non H', rt := Q } (L2.start N vs) H) :
    FnG P w K mg base CX (k + 1) f fd ps sp := by
  obtain ⟨oc, od, dV, kV, doc, pm, an, cdv, ct, osl, rfl, lk, hcd, _, _⟩ := F.ex
  refine ⟨len, fun A hg hr outer s H e0 args us vs hbind r Q E hsp => ?_⟩
  have kin : K.In s.heap := e0.mod.kin.keeps fun b o e => (e0.bs b o e).1
  have lim : s.heap.NoLimit := e0.mod.nolimit.keeps fun b o e => (e0.bs b o e).1
  refine Att.call_fn kin lim lk hcd hr.depth hbind ?_ (fun s1 x => ?_) S.co S.gen S.kind
  · rw [List.all_eq_true]
    rintro ⟨n, v⟩ hy
    rcases S.par n (List.of_mem_zip hy).1 with q | q
    · simp [q]
    · simp [q]
  · obtain ⟨t, ht, hq⟩ := hb cdv A outer s H vs Q E hg (hr.deeper _) hsp
    have I := inv_start (CX := CX) (E := E) S hr.hd e0 (len _ _ _ _ hsp) r x
    refine wpAny_mono (ht.run [] s1 _ H _ I hq) (fun fl s' hs => ?_) fun e s' hs => hs
    cases fl with
    | ret u => obtain ⟨v, σ', H', J, rv, q⟩ := hs; exact ⟨v, H', J.os, J.bare, J.base, J.hok, rv, q⟩
    | next => obtain ⟨σ', H', J, q⟩ := hs; exact ⟨.non, H', J.os, J.bare, J.base, J.hok, rfl, q⟩
    | brk => obtain ⟨_, _, _, q⟩ := hs; exact q.elim
    | cont => obtain ⟨_, _, _, q⟩ := hs; exact q.elim
/-- THE RULE for a def of the top, in data -/
theorem fn_okG {x qual : Str} {st : Stmt} {f : Addr} {fd : FuncData} {N ps : List Str} {k : Nat} {b : MS} (F : FunD K x qual (defArgs st) (defBody st) (defScope st) [] [] f fd) (S : FnScope N ps (defScope st))
    (hb : ∀ (cdv : Value) (A : Around) (outer : List PySem.Env) (s : Shared) (H : Hp) (E : XK), A.guards = some [] → Room k (A.deeper (envOfC qual (defScope st) s.heap.objs.size f cdv)) →
      PDSs (cxOf CX0 P w K mg base N qual (defScope st) f cdv A outer s H E).nox (defBody st) b) : FnG P w K mg base CX0 (k + 1) f fd ps (spD K ps.length (fnD N.length b)) :=
  fnG_of F S (fun vs H Q E h => spD_len h) fun cdv A outer s H vs Q E hg hr h => ⟨_, (hb cdv A outer s H E hg hr).nox, body_of h⟩
theorem spD_none {n : Nat} {vs : List V} {H : Hp} {Q : VK} {E : XK} : ¬ spD K n (fun _ _ => none) vs H Q E := fun ⟨_, _, _, _, _, _, _, _, h, _⟩ => by cases h
end

/-! calls -/
section
variable {X : Cx} {k n : Nat} {f : Addr} {fd : FuncData} {ps : List Str} {g : Fn} {x : Str} {p pos : Pos} {e : Expr} {es : List Expr}
@[simp] def mCallF (n : Nat) (g : Fn) (m : MA) : ME := fun σ S => (m σ S).bind fun r => if decide (r.1.length = n) = true then g r.1 r.2 else none
theorem run_G {pins : List (Addr × Obj)} {σ : L2.St} {H : Hp} {s : Shared} {Q : VK} {args : Args} {us : List Value} {vs : List V} {sp : Sp} (F : FnG X.prog X.w X.K X.mg X.base CX0 k f fd ps sp) (hG : X.A.guards = some []) (hr : Room k X.A)
    (I : Inv X pins σ H s) (hb : BindsTo s fd args (ps.zip us)) (r : Vals vs us) (h : sp vs H Q E0) : codeAny (model X.prog X.w) X.A (.call (.ref f) args) (fun r s' => match r with | .ok (.ret u) => EP X pins σ Q u s' | .ok _ => False | .error e => X.xe e s') s := by
  refine codeAny_mono (F.run X.A hG hr X.stack s H I.env0 args us vs hb r Q E0 h) fun r s' hq => ?_
  cases r with
  | error e => exact hq.elim
  | ok fl =>
    cases fl with
    | ret u => exact I.after hq
    | next => exact hq.elim
    | brk => exact hq.elim
    | cont => exact hq.elim
theorem wp_of_code {pins : List (Addr × Obj)} {σ : L2.St} {s : Shared} {Q : VK} {us : List Value} {kw : List (Str × Value)} (h : codeAny (model X.prog X.w) X.A (.call (.ref f) ⟨us, kw⟩) (fun r s' => match r with | .ok (.ret u) => EP X pins σ Q u s' | .ok _ => False | .error e => X.xe e s') s) :
    wpAny (model X.prog X.w) X.A (call (.ref f) us kw) (EP X pins σ Q) X.xe s := by
  refine wpAny_call (codeAny_mono h fun r s' hq => ?_)
  cases r with
  | error e => exact hq
  | ok fl =>
    cases fl with
    | ret u => exact hq
    | next => exact hq.elim
    | brk => exact hq.elim
    | cont => exact hq.elim
theorem spD_of {K : PySem.W.Frag} {ρ : Rho} {H : Hp} {S S' : Sto} {ws : List W} {w : W} {vs : List V} {Q : VK} {E : XK} (hs : SRel ρ H S) (hr : RelWs K ρ H ws vs) (hm : (if decide (ws.length = n) = true then g ws S else none) = some (w, S'))
    (q : ∀ ρ' v H', Ext ρ H ρ' H' → SRel ρ' H' S' → RelW K ρ' H' w v → Q v H') : spD K n g vs H Q E := by
  split at hm
  · rename_i hl
    exact ⟨ρ, S, ws, w, S', hs, hr, of_decide_eq_true hl, hm, q⟩
  · cases hm
theorem d_call {m : MA} (F : FnG X.prog X.w X.K X.mg X.base CX0 k f fd ps (spD X.K n g)) (hG : X.A.guards = some []) (hr : Room k X.A) (hg : Gl X x) (hm : X.mg x = some (.ref f)) (hk : PySem.W.keepIn X.K (.ref f) = true) (hb : Binds X.K fd ps [])
    (ha : PDA X (e :: es) m) (hdb : (x == ("__debug__" : Str)) = false := by decide) (he : starEach (e :: es) X.env = (false, eval e X.env) :: starEach es X.env := by rfl) (hpl : (backTo pos (starEach es X.env)).any (·.1) = false := by rfl) :
    PD X (.Call (.Name x p) (e :: es) [] pos) (mCallF n g m) := by
  refine ⟨fun pins s σ H Q I h => ?_⟩
  obtain ⟨ρ, σd, S, w, S', hs, hE, hmm, q⟩ := h
  obtain ⟨⟨ws, S1⟩, h1, h2⟩ := Option.bind_eq_some_iff.mp hmm
  have arg : tDA X.K m σ H (fun vs H1 => spD X.K n g vs H1 Q E0) := ⟨ρ, σd, S, ws, S1, hs, hE, h1, fun ρ1 vs H1 e1 s1 r1 => spD_of s1 r1 h2 fun ρ2 v H2 e2 s2 r2 => q ρ2 v H2 (e1.trans e2) s2 r2⟩
  refine wpAny_Call_Name_kw (ld_glob I hg hm ?_ hdb)
  refine PySem.W.callWith_K (h₀ := X.base) I.ok.mod.kin hk (thn (ha.run pos pins s σ H _ I arg) fun us s1 ⟨vs, H1, I1, r, q1⟩ => ⟨I1.kIn, ?_⟩) he hpl
  have hl : us.length = ps.length := by rw [← r.length]; exact F.len _ _ _ _ q1
  have hbd := hb s1 us I1.kIn (by rw [List.append_nil]; exact hl)
  rw [List.append_nil] at hbd
  exact wp_of_code (run_G F hG hr I1 hbd r q1)
theorem d_call0 (F : FnG X.prog X.w X.K X.mg X.base CX0 k f fd ps (spD X.K n g)) (hG : X.A.guards = some []) (hr : Room k X.A) (hg : Gl X x) (hm : X.mg x = some (.ref f)) (hk : PySem.W.keepIn X.K (.ref f) = true) (hb : Binds X.K fd ps [])
    (hdb : (x == ("__debug__" : Str)) = false := by decide) : PD X (.Call (.Name x p) [] [] pos) (mCallF n g mNil) := by
  refine ⟨fun pins s σ H Q I h => ?_⟩
  obtain ⟨ρ, σd, S, w, S', hs, hE, hmm, q⟩ := h
  obtain ⟨⟨ws, S1⟩, h1, h2⟩ := Option.bind_eq_some_iff.mp hmm
  cases h1
  have q1 : spD X.K n g [] H Q E0 := spD_of hs .nil h2 q
  refine wpAny_Call_Name_kw (ld_glob I hg hm ?_ hdb)
  refine PySem.W.callWith_K0 I.kIn hk ?_
  have hl : ([] : List Value).length = ps.length := F.len _ _ _ _ q1
  have hbd := hb s [] I.kIn hl
  exact wp_of_code (run_G (us := []) F hG hr I hbd .nil q1)
/-- keywords alone: perm puts their values in the parameters' order -/
abbrev PDK (X : Cx) (kws : List Keyword) (m : MA) : Prop := PK X kws (tDA X.K m)
theorem dk_nil : PDK X [] mNil := ⟨fun pos pins s σ H Q I ⟨ρ, σd, S, ws, S', hs, he, hm, q⟩ => by
  cases hm
  exact pk_nil.run pos pins s σ H Q I (q ρ _ H .refl hs .nil)⟩
theorem dk_cons {kws : List Keyword} {nm : Option Str} {kpos : Pos} {me : ME} {m : MA} (ha : PD X e me) (hr : PDK X kws m) : PDK X (⟨nm, e, kpos⟩ :: kws) (mCons me m) :=
  ⟨fun pos pins s σ H Q I ⟨ρ, σd, S, ws, S', hs, he, hm, q⟩ => by
    obtain ⟨⟨w1, S1⟩, h1, hm⟩ := Option.bind_eq_some_iff.mp hm
    rw [Option.map_eq_some_iff] at hm
    obtain ⟨⟨ws, S2⟩, h2, h3⟩ := hm
    cases h3
    exact (pk_cons ha hr).run pos pins s σ H Q I ⟨ρ, σd, S, w1, S1, hs, he, h1, fun ρ1 v1 H1 e1 s1 r1 => ⟨ρ1, σd, S1, ws, _, s1, he.ext e1, h2, fun ρ2 vs H2 e2 s2 r2 => q ρ2 _ H2 (e1.trans e2) s2 (.cons (r1.ext e2) r2)⟩⟩⟩
/-- the i-th parameter is given by the (is[i])-th keyword -/
def permL {α : Type} (is : List Nat) (xs : List α) : List α := is.filterMap fun i => xs[i]?
theorem RelWs.perm {K : PySem.W.Frag} {ρ : Rho} {H : Hp} {ws : List W} {vs : List V} (r : RelWs K ρ H ws vs) : ∀ is : List Nat, RelWs K ρ H (permL is ws) (permL is vs)
  | [] => .nil
  | i :: is => by
    have get : ∀ {ws : List W} {vs : List V} {i : Nat}, RelWs K ρ H ws vs → (ws[i]? = none ∧ vs[i]? = none) ∨ ∃ w v, ws[i]? = some w ∧ vs[i]? = some v ∧ RelW K ρ H w v := by
      intro ws vs i r
      induction r generalizing i with
      | nil => exact .inl ⟨rfl, rfl⟩
      | cons a _ ih =>
        cases i with
        | zero => exact .inr ⟨_, _, rfl, rfl, a⟩
        | succ i => simpa using ih (i := i)
    have ih := RelWs.perm r is
    unfold permL at ih ⊢
    rcases get (i := i) r with ⟨h1, h2⟩ | ⟨w, v, h1, h2, h3⟩
    · simp only [List.filterMap_cons, h1, h2]; exact ih
    · simp only [List.filterMap_cons, h1, h2]; exact .cons h3 ih
theorem vals_perm {vs : List V} {us : List Value} (r : Vals vs us) : ∀ is : List Nat, Vals (permL is vs) (permL is us)
  | [] => .nil
  | i :: is => by
    have ih := vals_perm r is
    unfold permL at ih ⊢
    cases h : vs[i]? with
    | none =>
      have h2 := r.none_of h
      simp only [List.filterMap_cons, h, h2]; exact ih
    | some v =>
      obtain ⟨u, h2, h3⟩ := r.get h
      simp only [List.filterMap_cons, h, h2]; exact .cons h3 ih
@[simp] def mCallK (is : List Nat) (n : Nat) (g : Fn) (m : MA) : ME := fun σ S => (m σ S).bind fun r => if decide ((permL is r.1).length = n) = true then g (permL is r.1) r.2 else none
theorem d_callK {kws : List Keyword} {ks : List Str} {m : MA} (is : List Nat) (F : FnG X.prog X.w X.K X.mg X.base CX0 k f fd ps (spD X.K n g)) (hG : X.A.guards = some []) (hr : Room k X.A) (hg : Gl X x) (hm : X.mg x = some (.ref f)) (hk : PySem.W.keepIn X.K (.ref f) = true)
    (hb : ∀ (s : Shared) (ws : List Value), (permL is ws).length = ps.length → BindsTo s fd ⟨[], ks.zip ws⟩ (ps.zip (permL is ws)))
    (ha : PDK X kws m) (hall : (backToKw pos (keywordEach kws X.env)).all (·.1.isSome) = true := by rfl) (hks : (backToKw pos (keywordEach kws X.env)).filterMap (·.1) = ks := by rfl) (hdb : (x == ("__debug__" : Str)) = false := by decide)
    (hpl : ((backTo pos (starEach [] X.env)).any (·.1) || (backToKw pos (keywordEach kws X.env)).any (·.1.isNone)) = false := by rfl) :
    PD X (.Call (.Name x p) [] kws pos) (mCallK is n g m) := by
  refine ⟨fun pins s σ H Q I h => ?_⟩
  obtain ⟨ρ, σd, S, w, S', hs, hE, hmm, q⟩ := h
  obtain ⟨⟨ws, S1⟩, h1, h2⟩ := Option.bind_eq_some_iff.mp hmm
  have arg : tDA X.K m σ H (fun vs H1 => spD X.K n g (permL is vs) H1 Q E0) := ⟨ρ, σd, S, ws, S1, hs, hE, h1, fun ρ1 vs H1 e1 s1 r1 => spD_of s1 (r1.perm is) h2 fun ρ2 v H2 e2 s2 r2 => q ρ2 v H2 (e1.trans e2) s2 r2⟩
  refine wpAny_Call_Name_kw (ld_glob I hg hm ?_ hdb)
  refine PySem.W.callWith_KW0 (h₀ := X.base) I.ok.mod.kin hk hall (thn (ha.run pos pins s σ H _ I arg) fun us s1 ⟨vs, H1, I1, r, q1⟩ => ⟨I1.kIn, ?_⟩) hpl
  rw [hks]
  have rp := vals_perm r is
  have hl : (permL is us).length = ps.length := by rw [← rp.length]; exact F.len _ _ _ _ q1
  exact wp_of_code (run_G F hG hr I1 (hb s1 us hl) rp q1)
end

/-! the law -/
section
open PySem.W PySem.Calls
/-- the law's def is called with the script, behind the top -/
theorem law_G {P : Program} {w : World} {K : Frag} {mg mb : Str → Option Value} {k : Nat} {fa a : Addr} {fd : FuncData} {x : Str} {f : Fn} {s₁ : Shared} {vs : List Value} {ns : List Int}
    (KX : K.In s₁.heap) (hns : s₁.heap.Ns mainGlobals mg) (hb : s₁.heap.Ns builtinsNs mb) (hbb : ∀ x : Str, x ≠ "__name__" → mb x = bootBuiltins x) (hlim : s₁.heap.NoLimit) (hg : s₁.gens = #[])
    (ha : s₁.heap.get? a = some { cls := .type "list", data := .seq vs.toArray }) (hi : IntsAre vs ns) (hl : ns.length ≤ sizeLine) (hr : Room k callerA)
    (F : ∀ base : Heap, K.In base → base.Ns mainGlobals mg → FnG P w K mg base CX0 k fa fd [x] (spD K 1 f)) (hbind : ∀ (s : Shared) (u : Value), BindsTo s fd ⟨[u], []⟩ [(x, u)])
    (hf : ∃ S', f [.sc ns] [] = some (.d (.bool true), S')) :
    codeAny (model P w) callerA (.call (.ref fa) ⟨[.ref a], []⟩) (fun r s' => r = .ok (.ret (.bool true)) ∧ OldK s₁.heap s'.heap ∧ s'.os = s₁.os ∧ AllBare s'.gens) s₁ := by
  obtain ⟨S', hf⟩ := hf
  have rv := vals_ints hi
  -- nothing is tracked but the script, unless it is an object of the written part
  let o0 : Obj := { cls := .type "list", data := .seq vs.toArray }
  let H : Hp := fun b => if b = a ∧ K.lookup a = none then some (.frz o0 (.lst (ns.map V.int))) else none
  have Hat : ∀ b u, H b = some u → b = a ∧ K.lookup a = none ∧ u = .frz o0 (.lst (ns.map V.int)) := fun b u e => by
    by_cases c : b = a ∧ K.lookup a = none
    · have e' : some (HO.frz o0 (.lst (ns.map V.int))) = some u := (if_pos c).symm.trans e
      exact ⟨c.1, c.2, (Option.some.inj e').symm⟩
    · have e' : (none : Option HO) = some u := (if_neg c).symm.trans e
      cases e'
  have hok : HOk P w H s₁.heap := fun b u e => by
    obtain ⟨rfl, _, rfl⟩ := Hat b u e
    exact ⟨ha, by rw [List.length_map]; exact hl, vs, 0, rv, ha⟩
  have free : ∀ {b : Addr} {o : Obj}, s₁.heap.get? b = some o → (b = a → K.lookup a ≠ none ∨ o ≠ o0) → H b = none := fun {b o} e hn => by
    cases q : H b with
    | none => rfl
    | some u =>
      obtain ⟨rfl, hk, _⟩ := Hat b u q
      rcases hn rfl with z | z
      · exact absurd hk z
      · rw [ha] at e; exact absurd (Option.some.inj e).symm z
  have inb : ∀ {b : Addr} {o : Obj}, s₁.heap.get? b = some o → (b = a → K.lookup a ≠ none ∨ o ≠ o0) → (hidT s₁.heap H).get? b = some o := fun e hn => hidT_get e (free e hn)
  have nsB : ∀ {b : Addr} {m : Str → Option Value}, s₁.heap.Ns b m → (hidT s₁.heap H).Ns b m := fun {b m} ⟨o, es, ep, e, d, r⟩ => ⟨o, es, ep, inb e (fun _ => .inr fun z => by rw [z] at d; cases d), d, r⟩
  have KB : K.In (hidT s₁.heap H) := fun b o e => inb (KX b o e) fun z => .inl (by rw [← z, e]; exact fun q => nomatch q)
  have M : Mod K mg (hidT s₁.heap H) := ⟨KB, nsB hns, ⟨mb, nsB hb, hbb⟩, let ⟨mc, h1, h2⟩ := hlim; ⟨mc, nsB h1, h2⟩⟩
  have e0 : Env0 P w K mg (hidT s₁.heap H) callerA [] s₁ H := ⟨rfl, M, fun b o e => of_hidT e, Nat.le_of_eq (hidT_size _ _), trivial, fun b z => (nomatch z), hok, .of_eq hg⟩
  have hs : SRel ⟨[], []⟩ H [] := ⟨rfl, fun i a e => by simp at e, fun i j a e => by simp at e, fun i o e => by simp at e, fun a h => by cases h⟩
  have hrel : RelW K ⟨[], []⟩ H (.sc ns) (.ref a) := by
    refine ⟨a, rfl, ?_⟩
    cases hk : K.lookup a with
    | none => exact .inl ⟨o0, if_pos ⟨rfl, hk⟩, fun z => (nomatch z), fun z => (nomatch z)⟩
    | some o =>
      have e := KX a o hk
      rw [ha] at e
      cases e
      refine .inr ⟨_, vs.toArray, _, hk, rfl, rfl, rfl, ?_, by simpa using rv⟩
      rw [List.size_toArray, hi.length]; exact hl
  have hsp : spD K 1 f [.ref a] H (fun v _ => v = .bl true) E0 := ⟨⟨[], []⟩, [], [.sc ns], .d (.bool true), S', hs, .cons hrel .nil, rfl, hf, fun ρ' v H' _ _ r => by cases r; rfl⟩
  refine codeAny_mono ((F _ KB (nsB hns)).run callerA rfl hr [] s₁ H e0 ⟨[.ref a], []⟩ [.ref a] [.ref a] (hbind s₁ (.ref a)) (.cons rfl .nil) _ _ hsp) fun r s' h => ?_
  cases r with
  | error e => exact h.elim
  | ok fl =>
    cases fl with
    | next => exact h.elim
    | brk => exact h.elim
    | cont => exact h.elim
    | ret u =>
      obtain ⟨v, H', os, bare, un, hok', r', q⟩ := h
      obtain rfl : v = .bl true := q
      obtain rfl : u = Value.bool true := r'
      refine ⟨rfl, OldK.of_keep fun b o e => ?_, os, bare⟩
      cases q : H b with
      | none => exact un.keep b o e q (fun z => (nomatch z)) (fun z => (nomatch z))
      | some u =>
        obtain ⟨rfl, _, rfl⟩ := Hat b u q
        obtain ⟨e2, _⟩ := hok' b _ (un.frzs b o0 _ q)
        rw [ha] at e; cases e
        exact e2
theorem walk_G {l : OpenLaw} {n k : Nat} {q : Program} {loose : List Str} {XP : (Str → Option Value) → Heap → Prop} {YP : World → Heap → Prop} {d : DefRec} {x : Str}
    (hn : l.most = some n) (hn2 : n ≤ sizeLine) (hdf : d.params.defaults = []) (hr : Room k callerA)
    (F : ∀ (w : World) (mg : Str → Option Value) (fa : Addr) (h : Heap), YP w h → h.Ns mainGlobals mg → mg d.name = some (.ref fa) →
      ∃ (K : Frag) (fd : FuncData) (f : Fn), K.In h ∧ (∀ (s : Shared) (u : Value), BindsTo s fd ⟨[u], []⟩ [(x, u)]) ∧ (∀ ns : List Int, ns.length ≤ n → ∃ S', f [.sc ns] [] = some (.d (.bool true), S')) ∧
        ∀ base : Heap, K.In base → base.Ns mainGlobals mg → FnG l.prog w K mg base CX0 k fa fd [x] (spD K 1 f)) :
    WalkO q loose XP YP l.row.toRowW d [] (fun f vs => PySem.call f vs) := by
  refine Att.attach_call hn hdf fun w s₀ s₁ mg mb fa o pm cd doc a vs ns G Y ho hd hcd hmg hobj hints hlen hg => ?_
  obtain ⟨K, fd, f, KX, hb, hf, hF⟩ := F w mg fa _ Y G.T.g hmg
  exact law_G KX G.T.g G.T.b G.T.builtins G.T.nolimit hg hobj hints (Nat.le_trans hlen hn2) hr hF hb (hf ns hlen)
end
end DL

set_option Elab.async false
set_option linter.all false
set_option maxRecDepth 100000
set_option autoImplicit false
/-! The data layer, 6: operators, subscripts, slices, what is built in. -/
noncomputable section
namespace DL
open PySem PySem.Spec PyProof.Rows L2

section
variable {X : Cx}
/-! numbers -/
def vAdd : G2 := fun S x y => match x, y with
  | .d (.int i), .d (.int j) => some (.d (.int (i + j)))
  | .d (.str a), .d (.str b) => if fits (a.length + b.length) = true then some (.d (.str (a ++ b))) else none
  | .d (.tuple xs), .d (.tuple ys) => if fits (xs.length + ys.length) = true then some (.d (.tuple (xs ++ ys))) else none
  | .d (.list xs), .d (.list ys) => if fits (xs.length + ys.length) = true then some (.d (.list (xs ++ ys))) else none
  | _, _ => none
theorem rep_tup {ρ : Rho} {H : Hp} {ds : List D} {v : V} (r : Rep ρ H (.tuple ds) v) : ∃ a vs, v = .ref a ∧ H a = some (.tup vs) ∧ ρ.Fr a ∧ RepL ρ H ds vs := by
  cases r with
  | tup h1 h2 h3 => exact ⟨_, _, rfl, h1, h2, h3⟩
theorem rep_lst {ρ : Rho} {H : Hp} {ds : List D} {v : V} (r : Rep ρ H (.list ds) v) : ∃ a vs, v = .ref a ∧ H a = some (.lst vs) ∧ ρ.Fr a ∧ RepL ρ H ds vs := by
  cases r with
  | lst h1 h2 h3 => exact ⟨_, _, rfl, h1, h2, h3⟩
theorem o_add : OpD X (binaryOp .Add) vAdd := by
  rintro pins s σ H v u v' u' Q I r1 r2 ⟨ρ, S, x, y, w, hs, rx, ry, hg, q⟩
  unfold vAdd at hg
  split at hg
  · cases hg
    cases rx; cases ry
    exact op_add pins s σ H _ _ _ _ Q I r1 r2 ⟨_, _, rfl, rfl, q ρ _ H .refl hs (.int _)⟩
  · obtain ⟨hf, hg⟩ := some_if hg
    cases hg
    cases rx; cases ry
    exact op_add_str pins s σ H _ _ _ _ Q I r1 r2 ⟨_, _, rfl, rfl, fits_ok hf, q ρ _ H .refl hs (.str _)⟩
  · rename_i xs ys
    obtain ⟨hf, hg⟩ := some_if hg
    cases hg
    obtain ⟨a, vs, rfl, h1, h2, h3⟩ := rep_tup rx
    obtain ⟨b, us, rfl, g1, g2, g3⟩ := rep_tup ry
    refine op_catA pins s σ H _ _ _ _ Q I r1 r2 ⟨a, b, vs, us, rfl, rfl, SqT.of h1, SqT.of g1, by rw [← h3.length, ← g3.length]; exact fits_ok hf, fun e => ?_, fun e e' => ?_, fun e e' p hp => ?_⟩
    · subst e
      cases h3
      exact q ρ _ H .refl hs (.tup g1 g2 g3)
    · subst e'
      cases g3
      rw [List.append_nil] at q
      exact q ρ _ H .refl hs (.tup h1 h2 h3)
    · exact q ρ _ _ (Ext.new hp) (hs.new hp) (.tup upd_same (hs.fresh hp) ((h3.append g3).ext (Ext.new hp)))
  · rename_i xs ys
    obtain ⟨hf, hg⟩ := some_if hg
    cases hg
    obtain ⟨a, vs, rfl, h1, h2, h3⟩ := rep_lst rx
    obtain ⟨b, us, rfl, g1, g2, g3⟩ := rep_lst ry
    refine op_cat pins s σ H _ _ _ _ Q I r1 r2 ⟨a, b, vs, us, rfl, rfl, h1, g1, by rw [← h3.length, ← g3.length]; exact fits_ok hf, fun p hp => ?_⟩
    exact q ρ _ _ (Ext.new hp) (hs.new hp) (.lst upd_same (hs.fresh hp) ((h3.append g3).ext (Ext.new hp)))
  · cases hg
def vSub : G2 := fun S x y => match x, y with
  | .d (.int i), .d (.int j) => some (.d (.int (i - j)))
  | _, _ => none
theorem o_sub : OpD X (binaryOp .Sub) vSub := by
  rintro pins s σ H v u v' u' Q I r1 r2 ⟨ρ, S, x, y, w, hs, rx, ry, hg, q⟩
  unfold vSub at hg
  split at hg
  · cases hg
    cases rx; cases ry
    exact op_sub pins s σ H _ _ _ _ Q I r1 r2 ⟨_, _, rfl, rfl, q ρ _ H .refl hs (.int _)⟩
  · cases hg
/-- one of the factors small, or both of known size -/
def mulOk (i j : Int) : Bool := says (-(2 ^ 64) < i ∧ i < 2 ^ 64) || says (-(2 ^ 64) < j ∧ j < 2 ^ 64) || says (i.natAbs.log2 + j.natAbs.log2 < 1000000)
def vMul : G2 := fun S x y => match x, y with
  | .d (.int i), .d (.int j) => if mulOk i j = true then some (.d (.int (i * j))) else none
  | _, _ => none
theorem o_mul : OpD X (binaryOp .Mult) vMul := by
  rintro pins s σ H v u v' u' Q I r1 r2 ⟨ρ, S, x, y, w, hs, rx, ry, hg, q⟩
  unfold vMul at hg
  split at hg
  · obtain ⟨hf, hg⟩ := some_if hg
    cases hg
    cases rx; cases ry
    unfold mulOk at hf
    rw [Bool.or_eq_true, Bool.or_eq_true, says_iff, says_iff, says_iff] at hf
    rcases hf with hf | hf
    · exact op_mul pins s σ H _ _ _ _ Q I r1 r2 ⟨_, _, rfl, rfl, hf, q ρ _ H .refl hs (.int _)⟩
    · exact op_mulW pins s σ H _ _ _ _ Q I r1 r2 ⟨_, _, rfl, rfl, hf, q ρ _ H .refl hs (.int _)⟩
  · cases hg
def divOk (j : Int) : Bool := says (0 < j ∧ j < 2 ^ 64)
def vFdiv : G2 := fun S x y => match x, y with
  | .d (.int i), .d (.int j) => if divOk j = true then some (.d (.int (i / j))) else none
  | _, _ => none
theorem o_fdiv : OpD X (binaryOp .FloorDiv) vFdiv := by
  rintro pins s σ H v u v' u' Q I r1 r2 ⟨ρ, S, x, y, w, hs, rx, ry, hg, q⟩
  unfold vFdiv at hg
  split at hg
  · obtain ⟨hf, hg⟩ := some_if hg
    cases hg
    cases rx; cases ry
    have hf := says_of hf
    exact op_fdivW pins s σ H _ _ _ _ Q I r1 r2 ⟨_, _, rfl, rfl, wide_div (b := 64) hf.1 (by omega) (by decide) (by decide), q ρ _ H .refl hs (.int _)⟩
  · cases hg
def vMod : G2 := fun S x y => match x, y with
  | .d (.int i), .d (.int j) => if decide (0 < j) = true then some (.d (.int (i % j))) else none
  | _, _ => none
theorem o_mod : OpD X (binaryOp .Mod) vMod := by
  rintro pins s σ H v u v' u' Q I r1 r2 ⟨ρ, S, x, y, w, hs, rx, ry, hg, q⟩
  unfold vMod at hg
  split at hg
  · obtain ⟨hf, hg⟩ := some_if hg
    cases hg
    cases rx; cases ry
    exact op_mod pins s σ H _ _ _ _ Q I r1 r2 ⟨_, _, rfl, rfl, of_decide_eq_true hf, q ρ _ H .refl hs (.int _)⟩
  · cases hg
def powOk (i j : Int) : Bool := says (0 ≤ j) && (says (j ≤ 1000000 ∧ i.natAbs < 2 ^ 64) || says ((Builtin.Int.intBits i : Int) * j ≤ 134217728))
def vPow : G2 := fun S x y => match x, y with
  | .d (.int i), .d (.int j) => if powOk i j = true then some (.d (.int (i ^ j.toNat))) else none
  | _, _ => none
theorem o_pow : OpD X (binaryOp .Pow) vPow := by
  rintro pins s σ H v u v' u' Q I r1 r2 ⟨ρ, S, x, y, w, hs, rx, ry, hg, q⟩
  unfold vPow at hg
  split at hg
  · obtain ⟨hf, hg⟩ := some_if hg
    cases hg
    cases rx; cases ry
    unfold powOk at hf
    rw [Bool.and_eq_true, Bool.or_eq_true, says_iff, says_iff, says_iff] at hf
    obtain ⟨h0, hf⟩ := hf
    rcases hf with hf | hf
    · exact op_pow pins s σ H _ _ _ _ Q I r1 r2 ⟨_, _, rfl, rfl, ⟨h0, hf.1, hf.2⟩, q ρ _ H .refl hs (.int _)⟩
    · obtain ⟨t, rfl⟩ := r1
      obtain ⟨t', rfl⟩ := r2
      exact pow_int h0 (by omega) ⟨.int _, H, I.tok _, ⟨_, rfl⟩, q ρ _ H .refl hs (.int _)⟩
  · cases hg
def vInt2 (f : Int → Int → Int) : G2 := fun S x y => match x, y with
  | .d (.int i), .d (.int j) => some (.d (.int (f i j)))
  | _, _ => none
theorem o_xor : OpD X (binaryOp .BitXor) (vInt2 Builtin.bitXor) := by
  rintro pins s σ H v u v' u' Q I r1 r2 ⟨ρ, S, x, y, w, hs, rx, ry, hg, q⟩
  unfold vInt2 at hg
  split at hg
  · cases hg
    cases rx; cases ry
    exact op_xor pins s σ H _ _ _ _ Q I r1 r2 ⟨_, _, rfl, rfl, q ρ _ H .refl hs (.int _)⟩
  · cases hg
theorem o_and : OpD X (binaryOp .BitAnd) (vInt2 Builtin.bitAnd) := by
  rintro pins s σ H v u v' u' Q I r1 r2 ⟨ρ, S, x, y, w, hs, rx, ry, hg, q⟩
  unfold vInt2 at hg
  split at hg
  · cases hg
    cases rx; cases ry
    exact op_and pins s σ H _ _ _ _ Q I r1 r2 ⟨_, _, rfl, rfl, q ρ _ H .refl hs (.int _)⟩
  · cases hg
def vNeg : G1 := fun S x => match x with
  | .d (.int i) => some (.d (.int (-i)))
  | _ => none
theorem o_neg : UnD X (unaryOp .USub) vNeg := by
  rintro pins s σ H v v' Q I r1 ⟨ρ, S, x, w, hs, rx, hg, q⟩
  unfold vNeg at hg
  split at hg
  · cases hg
    cases rx
    exact un_neg pins s σ H _ _ Q I r1 ⟨_, rfl, q ρ _ H .refl hs (.int _)⟩
  · cases hg

/-! order of numbers -/
def vCmp (f : Int → Int → Bool) : G2 := fun S x y => match x, y with
  | .d (.int i), .d (.int j) => some (.d (.bool (f i j)))
  | _, _ => none
theorem cmp_of {op : CmpOp} {f : Int → Int → Bool} (ho : OpR X (compareOp op) (rI0 fun i j => .bl (f i j))) : OpD X (compareOp op) (vCmp f) := by
  rintro pins s σ H v u v' u' Q I r1 r2 ⟨ρ, S, x, y, w, hs, rx, ry, hg, q⟩
  unfold vCmp at hg
  split at hg
  · cases hg
    cases rx; cases ry
    exact ho pins s σ H _ _ _ _ Q I r1 r2 ⟨_, _, rfl, rfl, q ρ _ H .refl hs (.bl _)⟩
  · cases hg
abbrev vLt := vCmp fun i j => decide (i < j)
abbrev vLe := vCmp fun i j => decide (i ≤ j)
abbrev vGt := vCmp fun i j => decide (j < i)
abbrev vGe := vCmp fun i j => decide (j ≤ i)
theorem o_lt : OpD X (compareOp .Lt) vLt := cmp_of op_lt
theorem o_le : OpD X (compareOp .LtE) vLe := cmp_of op_le
theorem o_gt : OpD X (compareOp .Gt) vGt := cmp_of op_gt
theorem o_ge : OpD X (compareOp .GtE) vGe := cmp_of op_ge

/-! equality of data -/
def asD (S : Sto) : W → Option D
  | .d x => some x
  | .loc i => match S[i]? with
    | some (.lst xs) => some (.list xs)
    | _ => none
  | _ => none
mutual
theorem Rep.dp {K : PySem.W.Frag} {ρ : Rho} {H : Hp} : ∀ {d : D} {v : V}, Rep ρ H d v → Dp K H v d
  | _, _, .non => .non
  | _, _, .bl b => .bl b
  | _, _, .int i => .int i
  | _, _, .str x => .str x
  | _, _, .tup h _ r => .tup (SqT.of h) (RepL.dp r)
  | _, _, .lst h _ r => .lst (SqL.of h) (RepL.dp r)
theorem RepL.dp {K : PySem.W.Frag} {ρ : Rho} {H : Hp} : ∀ {ds : List D} {vs : List V}, RepL ρ H ds vs → DpAll K H vs ds
  | _, _, .nil => .nil
  | _, _, .cons r t => .cons (Rep.dp r) (RepL.dp t)
end
theorem asD_dp {K : PySem.W.Frag} {ρ : Rho} {H : Hp} {S : Sto} (hs : SRel ρ H S) {w : W} {v : V} {d : D} (r : RelW K ρ H w v) (h : asD S w = some d) : Dp K H v d := by
  cases w with
  | d x => cases h; exact Rep.dp r
  | loc i =>
    simp only [asD] at h
    split at h
    · rename_i xs e
      cases h
      obtain ⟨a, vs, rfl, _, h2, h3⟩ := hs.lst_at r e
      exact .lst (SqL.of h2) h3.dp
    · cases h
  | _ => cases h
def strs2 : W → W → Option (Str × Str)
  | .d (.str a), .d (.str b) => some (a, b)
  | _, _ => none
theorem strs2_rel {K : PySem.W.Frag} {ρ : Rho} {H : Hp} {x y : W} {v u : V} {a b : Str} (h : strs2 x y = some (a, b)) (rx : RelW K ρ H x v) (ry : RelW K ρ H y u) : v = .str a ∧ u = .str b := by
  unfold strs2 at h
  split at h
  · cases h; cases rx; cases ry; exact ⟨rfl, rfl⟩
  · cases h
def vEq : G2 := fun S x y => match strs2 x y with
  | some (a, b) => some (.d (.bool (a == b)))
  | none => (asD S x).bind fun a => (asD S y).bind fun b => if (SeqAt.shaped a && SeqAt.shaped b) = true then some (.d (.bool (PyData.eqv a b))) else none
def vNe : G2 := fun S x y => match strs2 x y with
  | some (a, b) => some (.d (.bool (!(a == b))))
  | none => (asD S x).bind fun a => (asD S y).bind fun b => if (SeqAt.shaped a && SeqAt.shaped b) = true then some (.d (.bool (!PyData.eqv a b))) else none
theorem o_eq (hu : X.A.units + 64 < cLine) : OpD X (compareOp .Eq) vEq := by
  rintro pins s σ H v u v' u' Q I r1 r2 ⟨ρ, S, x, y, w, hs, rx, ry, hg, q⟩
  unfold vEq at hg
  split at hg
  · rename_i a b h
    cases hg
    obtain ⟨rfl, rfl⟩ := strs2_rel h rx ry
    refine L2.op_eq pins s σ H _ _ _ _ Q I r1 r2 ⟨rfl, ?_⟩
    rw [dec_str]
    exact q ρ _ H .refl hs (.bl _)
  · obtain ⟨a, ha, hg⟩ := Option.bind_eq_some_iff.mp hg
    obtain ⟨b, hb, hg⟩ := Option.bind_eq_some_iff.mp hg
    obtain ⟨hf, hg⟩ := some_if hg
    cases hg
    rw [Bool.and_eq_true] at hf
    exact op_eqD hu pins s σ H _ _ _ _ Q I r1 r2 ⟨a, b, asD_dp hs rx ha, asD_dp hs ry hb, hf.1, hf.2, q ρ _ H .refl hs (.bl _)⟩
theorem o_ne (hu : X.A.units + 64 < cLine) : OpD X (compareOp .NotEq) vNe := by
  rintro pins s σ H v u v' u' Q I r1 r2 ⟨ρ, S, x, y, w, hs, rx, ry, hg, q⟩
  unfold vNe at hg
  split at hg
  · rename_i a b h
    cases hg
    obtain ⟨rfl, rfl⟩ := strs2_rel h rx ry
    refine L2.op_ne pins s σ H _ _ _ _ Q I r1 r2 ⟨rfl, ?_⟩
    rw [dec_str]
    exact q ρ _ H .refl hs (.bl _)
  · obtain ⟨a, ha, hg⟩ := Option.bind_eq_some_iff.mp hg
    obtain ⟨b, hb, hg⟩ := Option.bind_eq_some_iff.mp hg
    obtain ⟨hf, hg⟩ := some_if hg
    cases hg
    rw [Bool.and_eq_true] at hf
    exact op_neD hu pins s σ H _ _ _ _ Q I r1 r2 ⟨a, b, asD_dp hs rx ha, asD_dp hs ry hb, hf.1, hf.2, q ρ _ H .refl hs (.bl _)⟩
/-- is None, is True: the right side a constant -/
def isNone : W → Bool
  | .d .none => true
  | _ => false
def vIsN : G2 := fun S x y => match x, y with
  | .d a, .d .none => some (.d (.bool (isNone (.d a))))
  | .loc i, .d .none => if (S[i]?.bind fun o => match o with | .dead => none | _ => some ()).isSome = true then some (.d (.bool false)) else none
  | .ct _, .d .none => some (.d (.bool false))
  | _, _ => none
def vIsNN : G2 := fun S x y => match x, y with
  | .d a, .d .none => some (.d (.bool (!isNone (.d a))))
  | .loc i, .d .none => if (S[i]?.bind fun o => match o with | .dead => none | _ => some ()).isSome = true then some (.d (.bool true)) else none
  | .ct _, .d .none => some (.d (.bool true))
  | _, _ => none
theorem isNone_rel {ρ : Rho} {H : Hp} {a : D} {v : V} (r : Rep ρ H a v) : decide (v = .non) = isNone (.d a) := by cases r <;> rfl
theorem live_ref {K : PySem.W.Frag} {ρ : Rho} {H : Hp} {S : Sto} (hs : SRel ρ H S) {i : Nat} {v : V} (r : RelW K ρ H (.loc i) v) (h : (S[i]?.bind fun o => match o with | .dead => none | _ => some ()).isSome = true) : ∃ a, v = .ref a := by
  cases e : S[i]? with
  | none => rw [e] at h; cases h
  | some o =>
    have ho : o ≠ .dead := by rintro rfl; rw [e] at h; cases h
    obtain ⟨a, q⟩ := hs.live i o e ho
    exact ⟨a, r.2 a q⟩
theorem o_isN : OpD X (compareOp .Is) vIsN := by
  rintro pins s σ H v u v' u' Q I r1 r2 ⟨ρ, S, x, y, w, hs, rx, ry, hg, q⟩
  unfold vIsN at hg
  split at hg
  · cases hg
    cases ry
    exact L2.op_isN pins s σ H _ _ _ _ Q I r1 r2 ⟨rfl, by rw [isNone_rel rx]; exact q ρ _ H .refl hs (.bl _)⟩
  · obtain ⟨hf, hg⟩ := some_if hg
    cases hg
    cases ry
    obtain ⟨a, rfl⟩ := live_ref hs rx hf
    exact L2.op_isN pins s σ H _ _ _ _ Q I r1 r2 ⟨rfl, q ρ _ H .refl hs (.bl _)⟩
  · cases hg
    cases ry
    obtain ⟨a, vs, rfl, _⟩ := rx
    exact L2.op_isN pins s σ H _ _ _ _ Q I r1 r2 ⟨rfl, q ρ _ H .refl hs (.bl _)⟩
  · cases hg
theorem o_isNN : OpD X (compareOp .IsNot) vIsNN := by
  rintro pins s σ H v u v' u' Q I r1 r2 ⟨ρ, S, x, y, w, hs, rx, ry, hg, q⟩
  unfold vIsNN at hg
  split at hg
  · cases hg
    cases ry
    exact L2.op_notN pins s σ H _ _ _ _ Q I r1 r2 ⟨rfl, by rw [isNone_rel rx]; exact q ρ _ H .refl hs (.bl _)⟩
  · obtain ⟨hf, hg⟩ := some_if hg
    cases hg
    cases ry
    obtain ⟨a, rfl⟩ := live_ref hs rx hf
    exact L2.op_notN pins s σ H _ _ _ _ Q I r1 r2 ⟨rfl, q ρ _ H .refl hs (.bl _)⟩
  · cases hg
    cases ry
    obtain ⟨a, vs, rfl, _⟩ := rx
    exact L2.op_notN pins s σ H _ _ _ _ Q I r1 r2 ⟨rfl, q ρ _ H .refl hs (.bl _)⟩
  · cases hg
def vIsB : G2 := fun S x y => match x, y with
  | .d (.bool a), .d (.bool b) => some (.d (.bool (decide (a = b))))
  | _, _ => none
def vIsNB : G2 := fun S x y => match x, y with
  | .d (.bool a), .d (.bool b) => some (.d (.bool (!decide (a = b))))
  | _, _ => none
theorem o_isB : OpD X (compareOp .Is) vIsB := by
  rintro pins s σ H v u v' u' Q I r1 r2 ⟨ρ, S, x, y, w, hs, rx, ry, hg, q⟩
  unfold vIsB at hg
  split at hg
  · cases hg
    cases rx; cases ry
    exact op_isBl pins s σ H _ _ _ _ Q I r1 r2 ⟨_, _, rfl, rfl, q ρ _ H .refl hs (.bl _)⟩
  · cases hg
theorem o_isNB : OpD X (compareOp .IsNot) vIsNB := by
  rintro pins s σ H v u v' u' Q I r1 r2 ⟨ρ, S, x, y, w, hs, rx, ry, hg, q⟩
  unfold vIsNB at hg
  split at hg
  · cases hg
    cases rx; cases ry
    exact op_notBl pins s σ H _ _ _ _ Q I r1 r2 ⟨_, _, rfl, rfl, q ρ _ H .refl hs (.bl _)⟩
  · cases hg

/-! dicts -/
def keyD : D → Option Key
  | .int i => some (.inl i)
  | .str x => some (.inr x)
  | _ => none
def keysD : List D → Option (List Key)
  | [] => some []
  | d :: ds => (keyD d).bind fun k => (keysD ds).map fun ks => k :: ks
def keyT : D → Option (List Key)
  | .tuple ds => keysD ds
  | _ => none
theorem keyD_rel {ρ : Rho} {H : Hp} {d : D} {v : V} {k : Key} (r : Rep ρ H d v) (h : keyD d = some k) : v = kV k := by
  cases r <;> cases h <;> rfl
theorem keysD_rel {ρ : Rho} {H : Hp} : ∀ {ds : List D} {vs : List V} {ks : List Key}, RepL ρ H ds vs → keysD ds = some ks → vs = ks.map kV
  | [], _, _, r, h => by cases r; cases h; rfl
  | d :: ds, _, _, r, h => by
    cases r with
    | cons r1 r2 =>
      obtain ⟨k, h1, h2⟩ := Option.bind_eq_some_iff.mp h
      rw [Option.map_eq_some_iff] at h2
      obtain ⟨ks, h3, h4⟩ := h2
      cases h4
      rw [keyD_rel r1 h1, keysD_rel r2 h3]
      rfl
theorem keyT_rel {ρ : Rho} {H : Hp} {d : D} {v : V} {ks : List Key} (r : Rep ρ H d v) (h : keyT d = some ks) : ∃ b, v = .ref b ∧ H b = some (.tup (ks.map kV)) := by
  cases r with
  | tup h1 _ h3 => exact ⟨_, rfl, by rw [h1, keysD_rel h3 h]⟩
  | _ => cases h
section
variable {κ : Type} [DecidableEq κ]
def valD (kvs : List (κ × D)) (k : κ) : Option D := (kvs.find? fun kv => decide (kv.1 = k)).map (·.2)
def putD (kvs : List (κ × D)) (k : κ) (d : D) : List (κ × D) := if (valD kvs k).isSome then kvs.map fun kv => if kv.1 = k then (kv.1, d) else kv else kvs ++ [(k, d)]
theorem RepKV.val {ρ : Rho} {H : Hp} {kvs : List (κ × D)} {us : List (κ × V)} (r : RepKV ρ H kvs us) (k : κ) : (valD kvs k = none ∧ valV us k = none) ∨ ∃ d v, valD kvs k = some d ∧ valV us k = some v ∧ Rep ρ H d v := by
  induction r with
  | nil => exact .inl ⟨rfl, rfl⟩
  | @cons k' d v r s h _ ih =>
    by_cases e : k' = k
    · refine .inr ⟨d, v, ?_, ?_, h⟩
      · simp [valD, List.find?_cons, e]
      · exact valV_pos e
    · have h1 : valD ((k', d) :: r) k = valD r k := by simp [valD, List.find?_cons, e]
      rw [h1, valV_neg (by exact e)]
      exact ih
theorem RepKV.length {ρ : Rho} {H : Hp} {kvs : List (κ × D)} {us : List (κ × V)} (r : RepKV ρ H kvs us) : kvs.length = us.length := by
  induction r with
  | nil => rfl
  | cons _ _ ih => simp [ih]
theorem RepKV.put {ρ : Rho} {H : Hp} {kvs : List (κ × D)} {us : List (κ × V)} (r : RepKV ρ H kvs us) (k : κ) {d : D} {v : V} (rv : Rep ρ H d v) : RepKV ρ H (putD kvs k d) (putK us k v) := by
  have hmap : RepKV ρ H (kvs.map fun kv => if kv.1 = k then (kv.1, d) else kv) (us.map fun kv => if kv.1 = k then (kv.1, v) else kv) := by
    induction r with
    | nil => exact .nil
    | @cons k' d' v' r s h _ ih =>
      simp only [List.map_cons]
      by_cases e : k' = k
      · rw [if_pos e, if_pos e]; exact .cons rv ih
      · rw [if_neg e, if_neg e]; exact .cons h ih
  have happ : RepKV ρ H (kvs ++ [(k, d)]) (us ++ [(k, v)]) := by
    clear hmap
    induction r with
    | nil => exact .cons rv .nil
    | cons h _ ih => exact .cons h ih
  rcases r.val k with ⟨h1, h2⟩ | ⟨d', v', h1, h2, _⟩
  · rw [putK_new v h2]
    unfold putD
    rw [h1]
    exact happ
  · have e2 : putK us k v = us.map fun kv => if kv.1 = k then (kv.1, v) else kv := by
      unfold putK
      rw [valV_any, h2]
      rfl
    rw [e2]
    unfold putD
    rw [h1]
    exact hmap
end
theorem dict_at {K : PySem.W.Frag} {ρ : Rho} {H : Hp} {S : Sto} (hs : SRel ρ H S) {i : Nat} {v : V} {o : O} (r : RelW K ρ H (.loc i) v) (h : S[i]? = some o) (ho : o ≠ .dead) : ∃ a, v = .ref a ∧ ρ.l[i]? = some (some a) ∧ ORel ρ H a o := by
  obtain ⟨a, q⟩ := hs.live i o h ho
  obtain ⟨o', h1, h2⟩ := hs.obj i a q
  rw [h] at h1; cases h1
  exact ⟨a, r.2 a q, q, h2⟩
/-- what a dict holds at a key -/
def lookD (S : Sto) : W → W → Option (Option D)
  | .loc i, .d k => match S[i]? with
    | some (.dK kvs) => (keyD k).map fun k => valD kvs k
    | some (.dT kvs) => (keyT k).map fun k => valD kvs k
    | _ => none
  | .kd _ kvs, .d k => (keyD k).map fun k => valD kvs k
  | .td _ kvs, .d k => (keyT k).map fun k => valD kvs k
  | _, _ => none
theorem lookD_rel {K : PySem.W.Frag} {ρ : Rho} {H : Hp} {S : Sto} (hs : SRel ρ H S) {x y : W} {v u : V} {o : Option D} (rx : RelW K ρ H x v) (ry : RelW K ρ H y u) (h : lookD S x y = some o) :
    ∃ a ov, v = .ref a ∧ DGet H a u ov ∧ ((o = none ∧ ov = none) ∨ ∃ d w, o = some d ∧ ov = some w ∧ Rep ρ H d w) := by
  unfold lookD at h
  split at h
  · rename_i i k
    split at h
    · rename_i kvs e
      rw [Option.map_eq_some_iff] at h
      obtain ⟨k', h1, rfl⟩ := h
      obtain ⟨a, rfl, _, us, h2, h3⟩ := dict_at hs rx e (by intro z; cases z)
      have := keyD_rel ry h1
      subst this
      exact ⟨a, _, rfl, DGet.k h2, h3.val k'⟩
    · rename_i kvs e
      rw [Option.map_eq_some_iff] at h
      obtain ⟨k', h1, rfl⟩ := h
      obtain ⟨a, rfl, _, us, h2, h3⟩ := dict_at hs rx e (by intro z; cases z)
      obtain ⟨b, rfl, hb⟩ := keyT_rel ry h1
      exact ⟨a, _, rfl, DGet.t h2 hb, h3.val k'⟩
    · cases h
  · rename_i b kvs k
    rw [Option.map_eq_some_iff] at h
    obtain ⟨k', h1, rfl⟩ := h
    obtain ⟨a, us, rfl, _, h2, _, h3⟩ := rx
    have := keyD_rel ry h1
    subst this
    exact ⟨a, _, rfl, .inl ⟨us, k', h2, rfl, rfl⟩, h3.val k'⟩
  · rename_i b kvs k
    rw [Option.map_eq_some_iff] at h
    obtain ⟨k', h1, rfl⟩ := h
    obtain ⟨a, us, rfl, _, h2, _, h3⟩ := rx
    obtain ⟨b, rfl, hb⟩ := keyT_rel ry h1
    exact ⟨a, _, rfl, .inr ⟨us, k', b, h2, rfl, hb, rfl⟩, h3.val k'⟩
  · cases h
def vDGet : G2 := fun S x y => (lookD S x y).bind fun o => o.map W.d
theorem d_dget {o i : Expr} {pos : Pos} {mo mi : ME} (hu : X.A.units + 1 < cLine) (ho : PD X o mo) (hi : PD X i mi) (hs : NoSl i) : PD X (.Subscript o i pos) (mBin vDGet mo mi) :=
  peImp (pe_dget hu ho hi hs) fun σ H Q h => by
    obtain ⟨ρ, σd, S, w, S', hs, he, hm, q⟩ := h
    obtain ⟨⟨w1, S1⟩, h1, hm⟩ := Option.bind_eq_some_iff.mp hm
    obtain ⟨⟨w2, S2⟩, h2, hm⟩ := Option.bind_eq_some_iff.mp hm
    rw [Option.map_eq_some_iff] at hm
    obtain ⟨w', h3, h4⟩ := hm
    cases h4
    obtain ⟨od, h5, h6⟩ := Option.bind_eq_some_iff.mp h3
    rw [Option.map_eq_some_iff] at h6
    obtain ⟨d, rfl, rfl⟩ := h6
    refine ⟨ρ, σd, S, w1, S1, hs, he, h1, fun ρ1 v1 H1 e1 s1 r1 => ⟨ρ1, σd, S1, w2, S2, s1, he.ext e1, h2, fun ρ2 v2 H2 e2 s2 r2 => ?_⟩⟩
    obtain ⟨a, ov, rfl, g, hh⟩ := lookD_rel s2 (r1.ext e2) r2 h5
    rcases hh with ⟨z, _⟩ | ⟨d', v', e3, rfl, rv⟩
    · cases z
    · cases e3
      exact ⟨a, v', rfl, g, q ρ2 v' H2 (e1.trans e2) s2 rv⟩
/-- membership -/
def flatD : D → Bool
  | .none => true
  | .bool _ => true
  | .int _ => true
  | .str _ => true
  | _ => false
def hasD (d : D) (ds : List D) : Bool := ds.any fun z => PyData.eqv z d
def memOk (d : D) (ds : List D) : Bool := flatD d && ds.all flatD
def vHas (S : Sto) (x y : W) : Option Bool := match lookD S y x with
  | some o => some o.isSome
  | none => (asD S x).bind fun d => match asT y with
    | some ds => if memOk d ds = true then some (hasD d ds) else match y with
      | .d _ => if (SeqAt.shaped d && SeqAt.shaped (.tuple ds)) = true then some (hasD d ds) else none
      | _ => none
    | none => (asL S y).bind fun ds => if memOk d ds = true then some (hasD d ds) else match y with
      | .d _ => if (SeqAt.shaped d && SeqAt.shaped (.list ds)) = true then some (hasD d ds) else none
      | .loc _ => if (SeqAt.shaped d && SeqAt.shaped (.list ds)) = true then some (hasD d ds) else none
      | _ => none
def vIn : G2 := fun S x y => (vHas S x y).map fun b => .d (.bool b)
def vNotIn : G2 := fun S x y => (vHas S x y).map fun b => .d (.bool (!b))
theorem flat_rel {ρ : Rho} {H : Hp} {d : D} {v : V} (r : Rep ρ H d v) (h : flatD d = true) : flatV v = true := by cases r <;> first | rfl | cases h
theorem flatL_rel {ρ : Rho} {H : Hp} : ∀ {ds : List D} {vs : List V}, RepL ρ H ds vs → ds.all flatD = true → vs.all flatV = true
  | _, _, .nil, _ => rfl
  | _, _, .cons r t, h => by
    rw [List.all_cons, Bool.and_eq_true] at h ⊢
    exact ⟨flat_rel r h.1, flatL_rel t h.2⟩
theorem eqV_rel {ρ : Rho} {H : Hp} {d e : D} {v u : V} (r : Rep ρ H d v) (r' : Rep ρ H e u) (h : flatD d = true) (h' : flatD e = true) : eqV v u = PyData.eqv d e := by
  cases r <;> first
    | (cases h; done)
    | (cases r' <;> first
      | (cases h'; done)
      | (simp [eqV, PyData.eqv]; done)
      | rfl)
theorem inV_rel {ρ : Rho} {H : Hp} {d : D} {v : V} (r : Rep ρ H d v) (h : flatD d = true) : ∀ {ds : List D} {vs : List V}, RepL ρ H ds vs → ds.all flatD = true → inV v vs = hasD d ds
  | _, _, .nil, _ => rfl
  | _, _, .cons r1 t, hh => by
    rw [List.all_cons, Bool.and_eq_true] at hh
    have ih := inV_rel r h t hh.2
    unfold inV hasD at ih ⊢
    rw [List.any_cons, List.any_cons, eqV_rel r1 r hh.1 h, ih]
theorem vHas_cases {K : PySem.W.Frag} {ρ : Rho} {H : Hp} {S : Sto} (hs : SRel ρ H S) {x y : W} {v u : V} {b : Bool} (rx : RelW K ρ H x v) (ry : RelW K ρ H y u) (h : vHas S x y = some b) :
    (∃ a ov, u = .ref a ∧ DGet H a v ov ∧ b = ov.isSome) ∨ (∃ p xs, u = .ref p ∧ (SqL K H p xs ∨ SqT K H p xs) ∧ flatV v = true ∧ xs.all flatV = true ∧ b = inV v xs) ∨
      (∃ d ds, Dp K H v d ∧ Dp K H u (.list ds) ∧ SeqAt.shaped d = true ∧ SeqAt.shaped (.list ds) = true ∧ b = (ds.any fun z => PyData.eqv z d)) ∨
      ∃ d ds, Dp K H v d ∧ Dp K H u (.tuple ds) ∧ SeqAt.shaped d = true ∧ SeqAt.shaped (.tuple ds) = true ∧ b = (ds.any fun z => PyData.eqv z d) := by
  unfold vHas at h
  split at h
  · rename_i o ho
    cases h
    obtain ⟨a, ov, rfl, g, hh⟩ := lookD_rel hs ry rx ho
    refine .inl ⟨a, ov, rfl, g, ?_⟩
    rcases hh with ⟨rfl, rfl⟩ | ⟨d, w, rfl, rfl, _⟩ <;> rfl
  · obtain ⟨d, hd, h⟩ := Option.bind_eq_some_iff.mp h
    have flat : ∀ {ds : List D} {p : Addr} {xs : List V}, (SqL K H p xs ∨ SqT K H p xs) → RepL ρ H ds xs → memOk d ds = true → flatV v = true ∧ xs.all flatV = true ∧ hasD d ds = inV v xs := fun {ds p xs} _ r hm => by
      unfold memOk at hm
      rw [Bool.and_eq_true] at hm
      have rd : Rep ρ H d v := by
        cases x with
        | d z => cases hd; exact rx
        | loc i =>
          simp only [asD] at hd
          split at hd
          · cases hd; cases hm.1
          · cases hd
        | _ => cases hd
      exact ⟨flat_rel rd hm.1, flatL_rel r hm.2, (inV_rel rd hm.1 r hm.2).symm⟩
    split at h
    · rename_i ds hT
      split at h
      · rename_i hm
        cases h
        obtain ⟨p, xs, rfl, hq, hr⟩ := asT_rel ry hT
        obtain ⟨f1, f2, f3⟩ := flat (.inr hq) hr hm
        exact .inr (.inl ⟨p, xs, rfl, .inr hq, f1, f2, f3⟩)
      · cases y with
        | d z =>
          obtain ⟨hm, h⟩ := some_if h
          cases h
          rw [Bool.and_eq_true] at hm
          refine .inr (.inr (.inr ⟨d, ds, asD_dp hs rx hd, ?_, hm.1, hm.2, rfl⟩))
          cases z with
          | tuple xs => cases hT; exact Rep.dp ry
          | _ => cases hT
        | _ => cases h
    · obtain ⟨ds, hL, h⟩ := Option.bind_eq_some_iff.mp h
      split at h
      · rename_i hm
        cases h
        obtain ⟨p, xs, rfl, hq, hr⟩ := asL_rel hs ry hL
        obtain ⟨f1, f2, f3⟩ := flat (.inl hq) hr hm
        exact .inr (.inl ⟨p, xs, rfl, .inl hq, f1, f2, f3⟩)
      · cases y with
        | d z =>
          obtain ⟨hm, h⟩ := some_if h
          cases h
          rw [Bool.and_eq_true] at hm
          refine .inr (.inr (.inl ⟨d, ds, asD_dp hs rx hd, ?_, hm.1, hm.2, rfl⟩))
          cases z with
          | list xs => cases hL; exact Rep.dp ry
          | _ => cases hL
        | loc i =>
          obtain ⟨hm, h⟩ := some_if h
          cases h
          rw [Bool.and_eq_true] at hm
          refine .inr (.inr (.inl ⟨d, ds, asD_dp hs rx hd, asD_dp (w := .loc i) hs ry ?_, hm.1, hm.2, rfl⟩))
          simp only [asL] at hL
          simp only [asD]
          split at hL
          · rename_i xs e
            cases hL
            first | rw [e] | rfl
          · cases hL
        | _ => cases h
def rInT (K : PySem.W.Frag) : R2 := fun x y H Q => ∃ d ds, Dp K H x d ∧ Dp K H y (.tuple ds) ∧ SeqAt.shaped d = true ∧ SeqAt.shaped (.tuple ds) = true ∧ Q (.bl (ds.any fun z => PyData.eqv z d)) H
def rNotInT (K : PySem.W.Frag) : R2 := fun x y H Q => ∃ d ds, Dp K H x d ∧ Dp K H y (.tuple ds) ∧ SeqAt.shaped d = true ∧ SeqAt.shaped (.tuple ds) = true ∧ Q (.bl (!ds.any fun z => PyData.eqv z d)) H
theorem op_inT (hu : X.A.units + 65 < cLine) : OpR X (compareOp .In) (rInT X.K) := by
  intro pins s σ H x y v u Q I rx ry h
  obtain ⟨d, ds, hd, he, sd, se, q⟩ := h
  obtain ⟨as, r1⟩ := Dp.reads I d x v hd rx
  obtain ⟨bs, r2⟩ := Dp.reads I (.tuple ds) y u he ry
  exact SeqAt.in_tuple_reads r2 r1 (SeqAt.canLay_of_shaped se) (SeqAt.canLay_of_shaped sd) (room_in_shaped sd hu) ⟨.bl _, H, I, rfl, q⟩
theorem op_notInT (hu : X.A.units + 65 < cLine) : OpR X (compareOp .NotIn) (rNotInT X.K) := by
  intro pins s σ H x y v u Q I rx ry h
  obtain ⟨d, ds, hd, he, sd, se, q⟩ := h
  obtain ⟨as, r1⟩ := Dp.reads I d x v hd rx
  obtain ⟨bs, r2⟩ := Dp.reads I (.tuple ds) y u he ry
  exact SeqAt.notIn_tuple_reads r2 r1 (SeqAt.canLay_of_shaped se) (SeqAt.canLay_of_shaped sd) (room_in_shaped sd hu) ⟨.bl _, H, I, rfl, q⟩
theorem o_in (hu : X.A.units + 65 < cLine) : OpD X (compareOp .In) vIn := by
  rintro pins s σ H v u v' u' Q I r1 r2 ⟨ρ, S, x, y, w, hs, rx, ry, hg, q⟩
  unfold vIn at hg
  rw [Option.map_eq_some_iff] at hg
  obtain ⟨b, hb, rfl⟩ := hg
  have qq := q ρ (.bl b) H .refl hs (.bl _)
  rcases vHas_cases hs rx ry hb with ⟨a, ov, rfl, g, rfl⟩ | ⟨p, xs, rfl, hq, f1, f2, rfl⟩ | ⟨d, ds, h1, h2, h3, h4, rfl⟩ | ⟨d, ds, h1, h2, h3, h4, rfl⟩
  · obtain rfl : u' = Value.ref a := r2
    exact d_in (by omega) I g r1 fun s2 I2 => ⟨.bl ov.isSome, H, I2, rfl, qq⟩
  · exact op_in_seq pins s σ H _ _ _ _ Q I r1 r2 ⟨p, xs, rfl, hq, f1, f2, qq⟩
  · exact op_inD hu pins s σ H _ _ _ _ Q I r1 r2 ⟨d, ds, h1, h2, h3, h4, qq⟩
  · exact op_inT hu pins s σ H _ _ _ _ Q I r1 r2 ⟨d, ds, h1, h2, h3, h4, qq⟩
theorem o_notIn (hu : X.A.units + 65 < cLine) : OpD X (compareOp .NotIn) vNotIn := by
  rintro pins s σ H v u v' u' Q I r1 r2 ⟨ρ, S, x, y, w, hs, rx, ry, hg, q⟩
  unfold vNotIn at hg
  rw [Option.map_eq_some_iff] at hg
  obtain ⟨b, hb, rfl⟩ := hg
  have qq := q ρ (.bl (!b)) H .refl hs (.bl _)
  rcases vHas_cases hs rx ry hb with ⟨a, ov, rfl, g, rfl⟩ | ⟨p, xs, rfl, hq, f1, f2, rfl⟩ | ⟨d, ds, h1, h2, h3, h4, rfl⟩ | ⟨d, ds, h1, h2, h3, h4, rfl⟩
  · obtain rfl : u' = Value.ref a := r2
    exact d_notIn (by omega) I g r1 fun s2 I2 => ⟨.bl (!ov.isSome), H, I2, rfl, qq⟩
  · exact op_notIn_seq pins s σ H _ _ _ _ Q I r1 r2 ⟨p, xs, rfl, hq, f1, f2, qq⟩
  · exact op_notInD hu pins s σ H _ _ _ _ Q I r1 r2 ⟨d, ds, h1, h2, h3, h4, qq⟩
  · exact op_notInT hu pins s σ H _ _ _ _ Q I r1 r2 ⟨d, ds, h1, h2, h3, h4, qq⟩
/-- o[i] = v, a list's or a dict's -/
def vSetI : GS := fun S o i v => match o, i, v with
  | .loc n, .d i, .d v => match S[n]? with
    | some (.lst xs) => match i with
      | .int k => (ixN xs.length k).map fun j => S.set n (.lst (xs.set j v))
      | _ => none
    | some (.dK kvs) => (keyD i).bind fun k => if fits (kvs.length + 1) = true then some (S.set n (.dK (putD kvs k v))) else none
    | some (.dT kvs) => (keyT i).bind fun k => if fits (kvs.length + 1) = true then some (S.set n (.dT (putD kvs k v))) else none
    | _ => none
  | _, _, _ => none
theorem RepL.upd {ρ : Rho} {H : Hp} {a : Addr} {o : HO} {ds : List D} {vs : List V} (h : some a ∈ ρ.l) (r : RepL ρ H ds vs) : RepL ρ (L2.upd H a o) ds vs := r.ext (Ext.write h)
theorem s_setI (hu : X.A.units + 1 < cLine) : SetD X vSetI := by
  rintro pins s σ H o i v ov iv uv Q I ro ri rv ⟨ρ, S, x, y, z, S', hs, rx, ry, rz, hg, q⟩
  unfold vSetI at hg
  split at hg
  · rename_i n i' v'
    split at hg
    · rename_i xs e
      split at hg
      · rename_i k
        rw [Option.map_eq_some_iff] at hg
        obtain ⟨j, hj, rfl⟩ := hg
        obtain ⟨a, vs, rfl, hl, h2, h3⟩ := hs.lst_at rx e
        cases ry
        have hm := List.mem_of_getElem? hl
        refine set_list pins s σ H _ _ _ _ _ _ Q I ro ri rv ⟨a, vs, k, j, rfl, rfl, h2, by rw [← h3.length]; exact hj, ?_⟩
        exact q ρ _ (Ext.write hm) (hs.write hl ⟨_, upd_same, (h3.set j rz).ext (Ext.write hm)⟩)
      · cases hg
    · rename_i kvs e
      obtain ⟨k, hk, hg⟩ := Option.bind_eq_some_iff.mp hg
      obtain ⟨hf, hg⟩ := some_if hg
      cases hg
      obtain ⟨a, rfl, hl, us, h2, h3⟩ := dict_at hs rx e (by intro z; cases z)
      obtain rfl : ov = Value.ref a := ro
      have := keyD_rel ry hk
      subst this
      have hm := List.mem_of_getElem? hl
      refine d_setItem hu I (DPut.k (v := v) h2 (by rw [← h3.length]; exact fits_lt hf)) ri rv fun s2 I2 => ⟨_, I2, q ρ _ (Ext.write hm) (hs.write hl ⟨_, upd_same, (h3.put k rz).ext (Ext.write hm)⟩)⟩
    · rename_i kvs e
      obtain ⟨k, hk, hg⟩ := Option.bind_eq_some_iff.mp hg
      obtain ⟨hf, hg⟩ := some_if hg
      cases hg
      obtain ⟨a, rfl, hl, us, h2, h3⟩ := dict_at hs rx e (by intro z; cases z)
      obtain rfl : ov = Value.ref a := ro
      obtain ⟨b, rfl, hb⟩ := keyT_rel ry hk
      have hm := List.mem_of_getElem? hl
      refine d_setItem hu I (DPut.t (v := v) h2 hb (by rw [← h3.length]; exact fits_lt hf)) ri rv fun s2 I2 => ⟨_, I2, q ρ _ (Ext.write hm) (hs.write hl ⟨_, upd_same, (h3.put k rz).ext (Ext.write hm)⟩)⟩
    · cases hg
  · cases hg

/-! subscripts, slices -/
def vIx : G2 := fun S x y => match y with
  | .d (.int i) => match asT x with
    | some ds => (atI ds i).map W.d
    | none => match asL S x with
      | some ds => (atI ds i).map W.d
      | none => match x with
        | .d (.str z) => if fits z.length = true then (atI z.cps.toList i).map fun c => .d (.str ⟨#[c]⟩) else none
        | _ => none
  | _ => none
theorem atI_rel {ρ : Rho} {H : Hp} {ds : List D} {vs : List V} {i : Int} {d : D} (r : RepL ρ H ds vs) (h : atI ds i = some d) : ∃ v, atI vs i = some v ∧ Rep ρ H d v := by
  unfold atI at h ⊢
  rw [← r.length]
  obtain ⟨j, h1, h2⟩ := Option.bind_eq_some_iff.mp h
  obtain ⟨v, h3, h4⟩ := r.get h2
  exact ⟨v, by rw [h1]; exact h3, h4⟩
theorem i_ix : IxD X vIx := by
  rintro value slice pins s σ H v u v' u' Q I r1 r2 ⟨ρ, S, x, y, w, hs, rx, ry, hg, q⟩ hsub
  unfold vIx at hg
  split at hg
  · rename_i i
    cases ry
    split at hg
    · rename_i ds hT
      rw [Option.map_eq_some_iff] at hg
      obtain ⟨d, hd, rfl⟩ := hg
      obtain ⟨a, vs, rfl, hq, hr⟩ := asT_rel rx hT
      obtain ⟨z, h1, h2⟩ := atI_rel hr hd
      exact ix_tup value slice pins s σ H _ _ _ _ Q I r1 r2 ⟨a, vs, i, z, rfl, rfl, hq, h1, q ρ z H .refl hs h2⟩ hsub
    · split at hg
      · rename_i ds hL
        rw [Option.map_eq_some_iff] at hg
        obtain ⟨d, hd, rfl⟩ := hg
        obtain ⟨a, vs, rfl, hq, hr⟩ := asL_rel hs rx hL
        obtain ⟨z, h1, h2⟩ := atI_rel hr hd
        exact ix_list value slice pins s σ H _ _ _ _ Q I r1 r2 ⟨a, vs, i, z, rfl, rfl, hq, h1, q ρ z H .refl hs h2⟩ hsub
      · split at hg
        · obtain ⟨hf, hg⟩ : fits _ = true ∧ _ := by
            split at hg
            · rename_i hf; exact ⟨hf, hg⟩
            · cases hg
          rw [Option.map_eq_some_iff] at hg
          obtain ⟨c, hc, rfl⟩ := hg
          cases rx
          exact ix_str value slice pins s σ H _ _ _ _ Q I r1 r2 ⟨_, i, c, rfl, rfl, fits_ok hf, hc, q ρ _ H .refl hs (.str _)⟩ hsub
        · cases hg
  · cases hg
/-- a part of a slice -/
abbrev MP := Env → Sto → Option (Option Int × Sto)
def tDP (K : PySem.W.Frag) (m : MP) : TO := fun σ H Q => ∃ ρ σd S o S', SRel ρ H S ∧ RelE K ρ H σd σ ∧ m σd S = some (o, S') ∧ ∀ ρ' H', Ext ρ H ρ' H' → SRel ρ' H' S' → Q o H'
abbrev PDP (X : Cx) (e : Option Expr) (m : MP) : Prop := PO X e (tDP X.K m)
theorem poImp {e : Option Expr} {t t' : TO} (h : PO X e t) (i : ∀ σ H Q, t' σ H Q → t σ H Q) : PO X e t' := ⟨fun pins s σ H Q I q => h.run pins s σ H Q I (i σ H Q q)⟩
@[simp] def mNoP : MP := fun _ S => some (none, S)
@[simp] def mP (m : ME) : MP := fun σ S => (m σ S).bind fun r => match r.1 with
  | .d (.int i) => some (some i, r.2)
  | _ => none
theorem dp_none : PDP X none mNoP := poImp po_none fun σ H Q ⟨ρ, σd, S, o, S', hs, he, hm, q⟩ => by
  cases hm
  exact q ρ H .refl hs
theorem dp_some {e : Expr} {m : ME} (h : PD X e m) : PDP X (some e) (mP m) := poImp (po_some h) fun σ H Q ⟨ρ, σd, S, o, S', hs, he, hm, q⟩ => by
  obtain ⟨⟨w1, S1⟩, h1, hm⟩ := Option.bind_eq_some_iff.mp hm
  refine ⟨ρ, σd, S, w1, S1, hs, he, h1, fun ρ1 v1 H1 e1 s1 r1 => ?_⟩
  dsimp only at hm
  split at hm
  · cases hm
    cases r1
    exact ⟨_, rfl, q ρ1 H1 e1 s1⟩
  · cases hm
def cutD (ds : List D) (lo hi : Option Int) : List D := (ds.drop (HT.sIx ds.length 0 lo)).take (HT.sIx ds.length ds.length hi - HT.sIx ds.length 0 lo)
theorem cutD_rel {ρ : Rho} {H : Hp} {ds : List D} {vs : List V} (r : RepL ρ H ds vs) (lo hi : Option Int) : RepL ρ H (cutD ds lo hi) (cutV vs lo hi) := by
  unfold cutD cutV
  rw [r.length]
  exact (r.drop _).take _
def vCut (S : Sto) (x : W) (lo hi : Option Int) : Option W := match x with
  | .d (.tuple ds) => some (.d (.tuple (cutD ds lo hi)))
  | _ => (asL S x).map fun ds => .d (.list (cutD ds lo hi))
@[simp] def mCut (o : ME) (l h : MP) : ME := fun σ S => (o σ S).bind fun r => (l σ r.2).bind fun p => (h σ p.2).bind fun q => (vCut q.2 r.1 p.1 q.1).map fun w => (w, q.2)
theorem cut_whole {ds : List D} {lo hi : Option Int} (h : HT.sIx ds.length 0 lo = 0 ∧ HT.sIx ds.length ds.length hi = ds.length) : cutD ds lo hi = ds := by
  unfold cutD
  rw [h.1, h.2]
  simp
/-- slices by values -/
def rCut (K : PySem.W.Frag) : V → Option Int → Option Int → Hp → VK → Prop := fun v lo hi H Q => ∃ ρ S x w, SRel ρ H S ∧ RelW K ρ H x v ∧ vCut S x lo hi = some w ∧ ∀ ρ' z H', Ext ρ H ρ' H' → SRel ρ' H' S → RelW K ρ' H' w z → Q z H'
theorem sl_cut : SlR X (rCut X.K) := by
  rintro pins s σ H x v vl vu lo hi sl Q I rx hsl pl pu ⟨ρ, S, w0, w, hs, r, hc, q⟩
  unfold vCut at hc
  split at hc
  · cases hc
    obtain ⟨a, vs, rfl, h1, h2, h3⟩ := rep_tup r
    refine sl_tupA pins s σ H _ v vl vu lo hi sl Q I rx hsl pl pu ⟨a, vs, rfl, SqT.of h1, fun hw => ?_, fun hw p hp => ?_⟩
    · rw [← h3.length] at hw
      have q' := q ρ (.ref a) H .refl hs
      rw [cut_whole hw] at q'
      exact q' (.tup h1 h2 h3)
    · exact q ρ _ _ (Ext.new hp) (hs.new hp) (.tup upd_same (hs.fresh hp) ((cutD_rel h3 lo hi).ext (Ext.new hp)))
  · rw [Option.map_eq_some_iff] at hc
    obtain ⟨ds, hL, rfl⟩ := hc
    obtain ⟨a, vs, rfl, hq, hr⟩ := asL_rel hs r hL
    refine sl_list pins s σ H _ v vl vu lo hi sl Q I rx hsl pl pu ⟨a, vs, rfl, hq, fun p hp => ?_⟩
    exact q ρ _ _ (Ext.new hp) (hs.new hp) (.lst upd_same (hs.fresh hp) ((cutD_rel hr lo hi).ext (Ext.new hp)))
theorem d_cut {e : Expr} {lo hi : Option Expr} {p2 pos : Pos} {m : ME} {ml mh : MP} (he : PD X e m) (hl : PDP X lo ml) (hh : PDP X hi mh) : PD X (.Subscript e (.Slice lo hi none p2) pos) (mCut m ml mh) :=
  peImp (pe_slice sl_cut he hl hh) fun σ H Q ⟨ρ, σd, S, w, S', hs, hE, hm, q⟩ => by
    obtain ⟨⟨w1, S1⟩, h1, hm⟩ := Option.bind_eq_some_iff.mp hm
    obtain ⟨⟨p1, S2⟩, h2, hm⟩ := Option.bind_eq_some_iff.mp hm
    obtain ⟨⟨p2, S3⟩, h3, hm⟩ := Option.bind_eq_some_iff.mp hm
    rw [Option.map_eq_some_iff] at hm
    obtain ⟨w', h4, h5⟩ := hm
    cases h5
    refine ⟨ρ, σd, S, w1, S1, hs, hE, h1, fun ρ1 v1 H1 e1 s1 r1 => ⟨ρ1, σd, S1, p1, S2, s1, hE.ext e1, h2, fun ρ2 H2 e2 s2 => ⟨ρ2, σd, S2, p2, S3, s2, hE.ext (e1.trans e2), h3, fun ρ3 H3 e3 s3 => ?_⟩⟩⟩
    exact ⟨ρ3, S3, w1, w, s3, r1.ext (e2.trans e3), h4, fun ρ4 z H4 e4 s4 r4 => q ρ4 z H4 (((e1.trans e2).trans e3).trans e4) s4 r4⟩
/-- xs[::-1] of a list -/
@[simp] def mRev (o : ME) : ME := fun σ S => (o σ S).bind fun r => (asL r.2 r.1).map fun ds => (.d (.list ds.reverse), r.2)
theorem d_rev {e : Expr} {k : Nat} {p1 p2 p3 pos : Pos} {m : ME} (he : PD X e m) : PD X (.Subscript e (.Slice none none (some (.UnaryOp .USub (.Constant (.int 1) k p1) p2)) p3) pos) (mRev m) :=
  peImp (pe_revL he) fun σ H Q ⟨ρ, σd, S, w, S', hs, hE, hm, q⟩ => by
    obtain ⟨⟨w1, S1⟩, h1, hm⟩ := Option.bind_eq_some_iff.mp hm
    rw [Option.map_eq_some_iff] at hm
    obtain ⟨ds, h2, h3⟩ := hm
    cases h3
    refine ⟨ρ, σd, S, w1, S1, hs, hE, h1, fun ρ1 v1 H1 e1 s1 r1 => ?_⟩
    obtain ⟨a, vs, rfl, hq, hr⟩ := asL_rel s1 r1 h2
    exact ⟨a, vs, rfl, hq, fun p hp => q ρ1 _ _ (e1.trans (Ext.new hp)) (s1.new hp) (.lst upd_same (s1.fresh hp) (hr.reverse.ext (Ext.new hp)))⟩
end
end DL

set_option Elab.async false
set_option linter.all false
set_option maxRecDepth 100000
set_option autoImplicit false
/-! The data layer, 7: functions, types and methods that are built in. -/
noncomputable section
namespace DL
open PySem PySem.Spec PyProof.Rows L2

section
variable {X : Cx}
@[simp] def pure1 (g : Sto → W → Option W) : GC := fun S ws => match ws with
  | [w] => (g S w).map fun u => (u, S)
  | _ => none
/-- one argument, nothing changed -/
theorem call1_of {f : Value} {g : Sto → W → Option W} (h : ∀ (pins : List (Addr × Obj)) (s : Shared) (σ : L2.St) (H : Hp) (v : V) (u : Value) (Q : VK) (ρ : Rho) (S : Sto) (x w : W), Inv X pins σ H s → RelV v u → SRel ρ H S → RelW X.K ρ H x v → g S x = some w →
    (∀ ρ' z H', Ext ρ H ρ' H' → SRel ρ' H' S → RelW X.K ρ' H' w z → Q z H') → wpAny (model X.prog X.w) X.A (call f [u]) (EP X pins σ Q) X.xe s) : CallD X f (pure1 g) := by
  rintro pins s σ H vs us Q I r ⟨ρ, S, ws, w, S', hs, rx, hg, q⟩
  unfold pure1 at hg
  split at hg
  · rename_i x
    rw [Option.map_eq_some_iff] at hg
    obtain ⟨w', h1, h2⟩ := hg
    cases h2
    obtain ⟨v, rfl, rv⟩ := rx.one
    obtain ⟨u, rfl, ru⟩ := vals1 r
    exact h pins s σ H v u Q ρ _ x w I ru hs rv h1 q
  · cases hg
/-- from a rule by values -/
theorem call1_by {f : Value} {r : List V → Hp → VK → Prop} {g : Sto → W → Option W} (hr : CallR X f r) (h : ∀ (H : Hp) (v : V) (Q : VK) (ρ : Rho) (S : Sto) (x w : W), SRel ρ H S → RelW X.K ρ H x v → g S x = some w →
    (∀ ρ' z H', Ext ρ H ρ' H' → SRel ρ' H' S → RelW X.K ρ' H' w z → Q z H') → r [v] H Q) : CallD X f (pure1 g) := by
  rintro pins s σ H vs us Q I rv ⟨ρ, S, ws, w, S', hs, rx, hg, q⟩
  unfold pure1 at hg
  split at hg
  · rename_i x
    rw [Option.map_eq_some_iff] at hg
    obtain ⟨w', h1, h2⟩ := hg
    cases h2
    obtain ⟨v, rfl, rv'⟩ := rx.one
    exact hr pins s σ H _ us Q I rv (h H v Q ρ _ x w hs rv' h1 q)
  · cases hg
@[simp] def pure2 (g : Sto → W → W → Option W) : GC := fun S ws => match ws with
  | [w, u] => (g S w u).map fun u => (u, S)
  | _ => none
theorem call2_by {f : Value} {r : List V → Hp → VK → Prop} {g : Sto → W → W → Option W} (hr : CallR X f r) (h : ∀ (H : Hp) (v u : V) (Q : VK) (ρ : Rho) (S : Sto) (x y w : W), SRel ρ H S → RelW X.K ρ H x v → RelW X.K ρ H y u → g S x y = some w →
    (∀ ρ' z H', Ext ρ H ρ' H' → SRel ρ' H' S → RelW X.K ρ' H' w z → Q z H') → r [v, u] H Q) : CallD X f (pure2 g) := by
  rintro pins s σ H vs us Q I rv ⟨ρ, S, ws, w, S', hs, rx, hg, q⟩
  unfold pure2 at hg
  split at hg
  · rename_i x y
    rw [Option.map_eq_some_iff] at hg
    obtain ⟨w', h1, h2⟩ := hg
    cases h2
    obtain ⟨v, u, rfl, rv', ru⟩ := rx.two
    exact hr pins s σ H _ us Q I rv (h H v u Q ρ _ x y w hs rv' ru h1 q)
  · cases hg

/-! len, abs, int, min, max -/
def seqOf (S : Sto) (x : W) : Option (List D) := match asT x with
  | some ds => some ds
  | none => asL S x
theorem seqOf_rel {K : PySem.W.Frag} {ρ : Rho} {H : Hp} {S : Sto} (s : SRel ρ H S) {w : W} {v : V} {ds : List D} (r : RelW K ρ H w v) (h : seqOf S w = some ds) : ∃ a vs, v = .ref a ∧ (SqL K H a vs ∨ SqT K H a vs) ∧ RepL ρ H ds vs := by
  unfold seqOf at h
  split at h
  · rename_i hT
    cases h
    obtain ⟨a, vs, e, h1, h2⟩ := asT_rel r hT
    exact ⟨a, vs, e, .inr h1, h2⟩
  · obtain ⟨a, vs, e, h1, h2⟩ := asL_rel s r h
    exact ⟨a, vs, e, .inl h1, h2⟩
def vLen (S : Sto) (x : W) : Option W := match x with
  | .d (.str z) => if fits z.length = true then some (.d (.int z.length)) else none
  | _ => (seqOf S x).map fun ds => .d (.int ds.length)
theorem c_len : CallD X (.builtin "len") (pure1 vLen) := call1_by call_len fun H v Q ρ S x w hs rx hg q => by
  unfold vLen at hg
  split at hg
  · obtain ⟨hf, hg⟩ := some_if hg
    cases hg
    cases rx
    exact ⟨_, _, rfl, ⟨fits_ok hf, rfl⟩, q ρ _ H .refl hs (.int _)⟩
  · rw [Option.map_eq_some_iff] at hg
    obtain ⟨ds, h1, rfl⟩ := hg
    obtain ⟨a, vs, rfl, h2, h3⟩ := seqOf_rel hs rx h1
    refine ⟨.ref a, ds.length, rfl, ?_, q ρ _ H .refl hs (.int _)⟩
    rcases h2 with h2 | h2
    · exact .inl ⟨vs, h2, h3.length⟩
    · exact .inr ⟨vs, h2, h3.length⟩
@[simp] def vInt1 (f : Int → Int) (S : Sto) (x : W) : Option W := match x with
  | .d (.int i) => some (.d (.int (f i)))
  | _ => none
def absI (i : Int) : Int := if i < 0 then -i else i
theorem c_abs : CallD X (.builtin "abs") (pure1 (vInt1 absI)) := call1_by call_abs fun H v Q ρ S x w hs rx hg q => by
  unfold vInt1 at hg
  split at hg
  · cases hg
    cases rx
    exact ⟨_, rfl, q ρ _ H .refl hs (.int _)⟩
  · cases hg
@[simp] def vInt (S : Sto) (x : W) : Option W := match x with
  | .d (.int i) => some (.d (.int i))
  | .d (.bool b) => some (.d (.int (if b then 1 else 0)))
  | _ => none
theorem c_int : CallD X (.type "int") (pure1 vInt) := call1_by call_int1 fun H v Q ρ S x w hs rx hg q => by
  unfold vInt at hg
  split at hg
  · cases hg
    cases rx
    exact .inl ⟨_, rfl, q ρ _ H .refl hs (.int _)⟩
  · cases hg
    cases rx
    exact .inr ⟨_, rfl, q ρ _ H .refl hs (.int _)⟩
  · cases hg
def vInt22 (f : Int → Int → Int) (S : Sto) (x y : W) : Option W := match x, y with
  | .d (.int i), .d (.int j) => some (.d (.int (f i j)))
  | _, _ => none
def maxI (i j : Int) : Int := if j > i then j else i
def minI (i j : Int) : Int := if j < i then j else i
theorem c_max2 (hc : X.calm = true) : CallD X (.builtin "max") (pure2 (vInt22 maxI)) := call2_by (call_max2 hc) fun H v u Q ρ S x y w hs rx ry hg q => by
  unfold vInt22 at hg
  split at hg
  · cases hg
    cases rx; cases ry
    exact ⟨_, _, rfl, q ρ _ H .refl hs (.int _)⟩
  · cases hg
theorem c_min2 (hc : X.calm = true) : CallD X (.builtin "min") (pure2 (vInt22 minI)) := call2_by (call_min2 hc) fun H v u Q ρ S x y w hs rx ry hg q => by
  unfold vInt22 at hg
  split at hg
  · cases hg
    cases rx; cases ry
    exact ⟨_, _, rfl, q ρ _ H .refl hs (.int _)⟩
  · cases hg
/-! lists of numbers, of truth values -/
def intsOf : List D → Option (List Int)
  | [] => some []
  | .int i :: ds => (intsOf ds).map fun ns => i :: ns
  | _ :: _ => none
theorem intsOf_eq : ∀ {ds : List D} {ns : List Int}, intsOf ds = some ns → ds = ns.map PyData.int
  | [], _, h => by cases h; rfl
  | .int i :: ds, _, h => by
    simp only [intsOf, Option.map_eq_some_iff] at h
    obtain ⟨ns, h1, rfl⟩ := h
    rw [intsOf_eq h1]; rfl
  | .none :: _, _, h => by cases h
  | .bool _ :: _, _, h => by cases h
  | .str _ :: _, _, h => by cases h
  | .list _ :: _, _, h => by cases h
  | .tuple _ :: _, _, h => by cases h
  | .dict _ :: _, _, h => by cases h
@[simp] theorem intsOf_map (ns : List Int) : intsOf (ns.map PyData.int) = some ns := by
  induction ns with
  | nil => rfl
  | cons n ns ih => simp [intsOf, ih]
def boolsOf : List D → Option (List Bool)
  | [] => some []
  | .bool i :: ds => (boolsOf ds).map fun ns => i :: ns
  | _ :: _ => none
theorem boolsOf_eq : ∀ {ds : List D} {ns : List Bool}, boolsOf ds = some ns → ds = ns.map PyData.bool
  | [], _, h => by cases h; rfl
  | .bool i :: ds, _, h => by
    simp only [boolsOf, Option.map_eq_some_iff] at h
    obtain ⟨ns, h1, rfl⟩ := h
    rw [boolsOf_eq h1]; rfl
  | .none :: _, _, h => by cases h
  | .int _ :: _, _, h => by cases h
  | .str _ :: _, _, h => by cases h
  | .list _ :: _, _, h => by cases h
  | .tuple _ :: _, _, h => by cases h
  | .dict _ :: _, _, h => by cases h
@[simp] theorem boolsOf_map (ns : List Bool) : boolsOf (ns.map PyData.bool) = some ns := by
  induction ns with
  | nil => rfl
  | cons n ns ih => simp [boolsOf, ih]
def vSum (S : Sto) (x : W) : Option W := (seqOf S x).bind fun ds => (intsOf ds).map fun ns => .d (.int ns.sum)
theorem c_sum (hc : X.calm = true) : CallD X (.builtin "sum") (pure1 vSum) := call1_of fun pins s σ H v u Q ρ S x w I r hs rx hg q => by
  obtain ⟨ds, h1, hg⟩ := Option.bind_eq_some_iff.mp hg
  rw [Option.map_eq_some_iff] at hg
  obtain ⟨ns, h2, rfl⟩ := hg
  have := intsOf_eq h2
  subst this
  obtain ⟨a, vs, rfl, h3, h4⟩ := seqOf_rel hs rx h1
  have := h4.ints
  subst this
  have qq := q ρ (.int ns.sum) H .refl hs (.int _)
  rcases h3 with h3 | h3
  · exact cr_sum hc pins s σ H [.ref a] [u] Q I (.cons r .nil) ⟨a, ns, rfl, h3, qq⟩
  · obtain rfl : u = Value.ref a := r
    obtain ⟨its, rv, ht, _⟩ := I.tuple h3
    have hi := rv.ints
    obtain ⟨xs, e⟩ := hi.allInts.items
    have hn : numsOf (intItems xs).toList = ns := by rw [← e]; exact hi.numsOf
    rw [nums_intItems] at hn
    rw [e] at ht
    refine PySem.W.ktm_sumG (I.ok.hd hc) (show s.heap.IsTuple a (intItems xs) from ht) fun h' tk t' hk => ?_
    rw [preSum_eq, List.take_of_length_le (by simp), hn]
    exact ⟨.int ns.sum, H, I.kept hk, ⟨_, rfl⟩, qq⟩
def vAll (S : Sto) (x : W) : Option W := (asL S x).bind fun ds => (boolsOf ds).map fun bs => .d (.bool (bs.all id))
def vAny (S : Sto) (x : W) : Option W := (asL S x).bind fun ds => (boolsOf ds).map fun bs => .d (.bool (bs.any id))
theorem c_all (hc : X.calm = true) : CallD X (.builtin "all") (pure1 vAll) := call1_by (cr_all hc) fun H v Q ρ S x w hs rx hg q => by
  obtain ⟨ds, h1, hg⟩ := Option.bind_eq_some_iff.mp hg
  rw [Option.map_eq_some_iff] at hg
  obtain ⟨bs, h2, rfl⟩ := hg
  have := boolsOf_eq h2
  subst this
  obtain ⟨a, vs, rfl, h3, h4⟩ := asL_rel hs rx h1
  have := h4.bools
  subst this
  exact ⟨a, bs, rfl, h3, q ρ _ H .refl hs (.bl _)⟩
theorem c_any (hc : X.calm = true) : CallD X (.builtin "any") (pure1 vAny) := call1_by (cr_any hc) fun H v Q ρ S x w hs rx hg q => by
  obtain ⟨ds, h1, hg⟩ := Option.bind_eq_some_iff.mp hg
  rw [Option.map_eq_some_iff] at hg
  obtain ⟨bs, h2, rfl⟩ := hg
  have := boolsOf_eq h2
  subst this
  obtain ⟨a, vs, rfl, h3, h4⟩ := asL_rel hs rx h1
  have := h4.bools
  subst this
  exact ⟨a, bs, rfl, h3, q ρ _ H .refl hs (.bl _)⟩
/-- the greatest, the least of a list of numbers -/
def maxL : Int → List Int → Int
  | m, [] => m
  | m, x :: xs => maxL (if x > m then x else m) xs
def minL : Int → List Int → Int
  | m, [] => m
  | m, x :: xs => minL (if x < m then x else m) xs
theorem maxL_spec : ∀ (xs : List Int) (m : Int), (maxL m xs = m ∨ maxL m xs ∈ xs) ∧ m ≤ maxL m xs ∧ ∀ y ∈ xs, y ≤ maxL m xs
  | [], m => ⟨.inl rfl, Int.le_refl _, fun y h => by cases h⟩
  | x :: xs, m => by
    have ih := maxL_spec xs (if x > m then x else m)
    unfold maxL
    by_cases h : x > m
    · rw [if_pos h] at ih ⊢
      refine ⟨.inr (ih.1.elim (fun e => by rw [e]; exact List.mem_cons_self) (fun e => List.mem_cons_of_mem _ e)), by omega, fun y hy => ?_⟩
      rcases List.mem_cons.mp hy with rfl | hy
      · exact ih.2.1
      · exact ih.2.2 y hy
    · rw [if_neg h] at ih ⊢
      refine ⟨ih.1.elim .inl (fun e => .inr (List.mem_cons_of_mem _ e)), ih.2.1, fun y hy => ?_⟩
      rcases List.mem_cons.mp hy with rfl | hy
      · omega
      · exact ih.2.2 y hy
theorem minL_spec : ∀ (xs : List Int) (m : Int), (minL m xs = m ∨ minL m xs ∈ xs) ∧ minL m xs ≤ m ∧ ∀ y ∈ xs, minL m xs ≤ y
  | [], m => ⟨.inl rfl, Int.le_refl _, fun y h => by cases h⟩
  | x :: xs, m => by
    have ih := minL_spec xs (if x < m then x else m)
    unfold minL
    by_cases h : x < m
    · rw [if_pos h] at ih ⊢
      refine ⟨.inr (ih.1.elim (fun e => by rw [e]; exact List.mem_cons_self) (fun e => List.mem_cons_of_mem _ e)), by omega, fun y hy => ?_⟩
      rcases List.mem_cons.mp hy with rfl | hy
      · exact ih.2.1
      · exact ih.2.2 y hy
    · rw [if_neg h] at ih ⊢
      refine ⟨ih.1.elim .inl (fun e => .inr (List.mem_cons_of_mem _ e)), ih.2.1, fun y hy => ?_⟩
      rcases List.mem_cons.mp hy with rfl | hy
      · omega
      · exact ih.2.2 y hy
def vMaxL (S : Sto) (x : W) : Option W := (asL S x).bind fun ds => (intsOf ds).bind fun ns => match ns with
  | [] => none
  | m :: ms => some (.d (.int (maxL m ms)))
def vMinL (S : Sto) (x : W) : Option W := (asL S x).bind fun ds => (intsOf ds).bind fun ns => match ns with
  | [] => none
  | m :: ms => some (.d (.int (minL m ms)))
theorem c_maxL (hc : X.calm = true) : CallD X (.builtin "max") (pure1 vMaxL) := call1_by (cr_max hc) fun H v Q ρ S x w hs rx hg0 q => by
  obtain ⟨ds, h1, hg⟩ := Option.bind_eq_some_iff.mp hg0
  clear hg0
  obtain ⟨ns, h2, hg2⟩ := Option.bind_eq_some_iff.mp hg
  clear hg
  have := intsOf_eq h2
  subst this
  obtain ⟨a, vs, rfl, h3, h4⟩ := asL_rel hs rx h1
  have := h4.ints
  subst this
  cases ns with
  | nil => cases hg2
  | cons m ms =>
    cases hg2
    refine ⟨a, m :: ms, rfl, h3, by simp, fun z hz hle => ?_⟩
    obtain ⟨s1, s2, s3⟩ := maxL_spec ms m
    have e : z = maxL m ms := by
      have a1 : maxL m ms ≤ z := s1.elim (fun e => by rw [e]; exact hle m List.mem_cons_self) fun e => hle _ (List.mem_cons_of_mem _ e)
      have a2 : z ≤ maxL m ms := by
        rcases List.mem_cons.mp hz with rfl | hz
        · exact s2
        · exact s3 z hz
      omega
    rw [e]
    exact q ρ _ H .refl hs (.int _)
theorem c_minL (hc : X.calm = true) : CallD X (.builtin "min") (pure1 vMinL) := call1_by (cr_min hc) fun H v Q ρ S x w hs rx hg0 q => by
  obtain ⟨ds, h1, hg⟩ := Option.bind_eq_some_iff.mp hg0
  clear hg0
  obtain ⟨ns, h2, hg2⟩ := Option.bind_eq_some_iff.mp hg
  clear hg
  have := intsOf_eq h2
  subst this
  obtain ⟨a, vs, rfl, h3, h4⟩ := asL_rel hs rx h1
  have := h4.ints
  subst this
  cases ns with
  | nil => cases hg2
  | cons m ms =>
    cases hg2
    refine ⟨a, m :: ms, rfl, h3, by simp, fun z hz hle => ?_⟩
    obtain ⟨s1, s2, s3⟩ := minL_spec ms m
    have e : z = minL m ms := by
      have a1 : z ≤ minL m ms := s1.elim (fun e => by rw [e]; exact hle m List.mem_cons_self) fun e => hle _ (List.mem_cons_of_mem _ e)
      have a2 : minL m ms ≤ z := by
        rcases List.mem_cons.mp hz with rfl | hz
        · exact s2
        · exact s3 z hz
      omega
    rw [e]
    exact q ρ _ H .refl hs (.int _)

/-! kinds -/
def tyName : W → Option String
  | .d .none => some "NoneType"
  | .d (.bool _) => some "bool"
  | .d (.int _) => some "int"
  | .d (.str _) => some "str"
  | .d (.list _) => some "list"
  | .d (.tuple _) => some "tuple"
  | _ => none
theorem tyName_rel {K : PySem.W.Frag} {ρ : Rho} {H : Hp} {x : W} {v : V} {T : String} (h : tyName x = some T) (r : RelW K ρ H x v) : TyX K H v (.type T) := by
  cases x with
  | d z =>
    cases z with
    | none => cases h; cases r; exact .base .non
    | bool b => cases h; cases r; exact .base (.bl b)
    | int b => cases h; cases r; exact .base (.int b)
    | str b => cases h; cases r; exact .base (.str b)
    | list b => cases h; obtain ⟨a, vs, rfl, h1, _⟩ := rep_lst r; exact .base (.lst h1)
    | tuple b => cases h; obtain ⟨a, vs, rfl, h1, _⟩ := rep_tup r; exact .base (.tup h1)
    | dict _ => cases h
  | _ => cases h
def vIsi (S : Sto) (x c : W) : Option W := match c with
  | .v (.ty T) => (tyName x).bind fun n => (kitB n T).map fun b => .d (.bool b)
  | _ => none
theorem c_isi : CallD X (.builtin "isinstance") (pure2 vIsi) := call2_by call_isi fun H v u Q ρ S x y w hs rx ry hg q => by
  unfold vIsi at hg
  split at hg
  · rename_i T
    obtain ⟨n, h1, hg⟩ := Option.bind_eq_some_iff.mp hg
    rw [Option.map_eq_some_iff] at hg
    obtain ⟨b, h2, rfl⟩ := hg
    have e : u = .ty T := ry
    subst e
    exact ⟨v, .ty T, .type n, .type T, b, rfl, .ty T, tyName_rel h1 rx, kit_ty h2, q ρ _ H .refl hs (.bl b)⟩
  · cases hg
theorem d_type {x : Str} {T : String} {pos : Pos} (hg : Gl X x) (hm : X.mg x = none) (hv : bootBuiltins x = some (.type T)) (hn : x ≠ "__name__" := by decide) (hd : (x == ("__debug__" : Str)) = false := by decide) : PD X (.Name x pos) (mC (.v (.ty T))) :=
  d_c (v := .ty T) (pe_bltn hg hm hv rfl hn hd) fun _ _ => rfl

/-! tuple, list -/
def vTuple (S : Sto) (x : W) : Option W := match x with
  | .d (.tuple ds) => some (.d (.tuple ds))
  | .ct ds => some (.ct ds)
  | _ => (asL S x).map fun ds => .d (.tuple ds)
theorem c_tuple : CallD X (.type "tuple") (pure1 vTuple) := call1_by call_tuple_of fun H v Q ρ S x w hs rx hg q => by
  unfold vTuple at hg
  split at hg
  · cases hg
    obtain ⟨a, vs, rfl, h1, h2, h3⟩ := rep_tup rx
    exact ⟨a, vs, rfl, .inr ⟨SqT.of h1, q ρ _ H .refl hs (.tup h1 h2 h3)⟩⟩
  · cases hg
    obtain ⟨a, vs, rfl, h1, h2⟩ := id rx
    exact ⟨a, vs, rfl, .inr ⟨h1 H, q ρ _ H .refl hs rx⟩⟩
  · rw [Option.map_eq_some_iff] at hg
    obtain ⟨ds, h1, rfl⟩ := hg
    obtain ⟨a, vs, rfl, h2, h3⟩ := asL_rel hs rx h1
    exact ⟨a, vs, rfl, .inl ⟨h2, fun p hp => q ρ _ _ (Ext.new hp) (hs.new hp) (.tup upd_same (hs.fresh hp) (h3.ext (Ext.new hp)))⟩⟩
def vList (S : Sto) (x : W) : Option W := (seqOf S x).map fun ds => .d (.list ds)
theorem c_list : CallD X (.type "list") (pure1 vList) := call1_by call_list_of fun H v Q ρ S x w hs rx hg q => by
  unfold vList at hg
  rw [Option.map_eq_some_iff] at hg
  obtain ⟨ds, h1, rfl⟩ := hg
  obtain ⟨a, vs, rfl, h2, h3⟩ := seqOf_rel hs rx h1
  exact ⟨a, vs, rfl, h2, fun p hp => q ρ _ _ (Ext.new hp) (hs.new hp) (.lst upd_same (hs.fresh hp) (h3.ext (Ext.new hp)))⟩
/-- list(x), to be changed -/
def gListN : GC := fun S ws => match ws with
  | [w] => (seqOf S w).map fun ds => (.loc S.length, S ++ [.lst ds])
  | _ => none
theorem c_listN : CallD X (.type "list") gListN := by
  rintro pins s σ H vs us Q I rv ⟨ρ, S, ws, w, S', hs, rx, hg, q⟩
  unfold gListN at hg
  split at hg
  · rename_i x
    rw [Option.map_eq_some_iff] at hg
    obtain ⟨ds, h1, h2⟩ := hg
    cases h2
    obtain ⟨v, rfl, rv'⟩ := rx.one
    obtain ⟨a, us', rfl, h2, h3⟩ := seqOf_rel hs rv' h1
    refine call_list_of pins s σ H _ us Q I rv ⟨a, us', rfl, h2, fun p hp => ?_⟩
    exact q (ρ.add p) _ _ (Ext.alloc hs hp) (hs.alloc hp ⟨us', upd_same, h3.ext (Ext.alloc hs hp)⟩) (new_loc hs)
  · cases hg
/-- list(range(..)) -/
theorem rangeD_rep {ρ : Rho} {H : Hp} (i j : Int) : RepL ρ H (rangeD i (j - i).toNat) (rgV i j) := by
  have key : ∀ (n : Nat) (lo : Int), RepL ρ H (rangeD lo n) ((List.range n).map fun k => V.int (lo + (k : Nat) * 1)) := by
    intro n
    induction n with
    | zero => intro lo; exact .nil
    | succ n ih =>
      intro lo
      rw [List.range_succ_eq_map, List.map_cons, List.map_map]
      refine .cons ?_ ?_
      · simpa using Rep.int (ρ := ρ) (H := H) lo
      · have := ih (lo + 1)
        have e : (List.range n).map ((fun k : Nat => V.int (lo + (k : Nat) * 1)) ∘ Nat.succ) = (List.range n).map fun k => V.int (lo + 1 + (k : Nat) * 1) := by
          apply List.map_congr_left
          intro k _
          show V.int (lo + ((k + 1 : Nat) : Int) * 1) = V.int (lo + 1 + (k : Nat) * 1)
          congr 1
          omega
        rw [e]
        exact this
  have := key (j - i).toNat i
  unfold rgV
  simpa using this
abbrev MR := Env → Sto → Option ((Int × Int) × Sto)
def tDR (K : PySem.W.Frag) (m : MR) : L2.St → Hp → (Int → Int → Hp → Prop) → Prop := fun σ H Q => ∃ ρ σd S i j S', SRel ρ H S ∧ RelE K ρ H σd σ ∧ m σd S = some ((i, j), S') ∧ ∀ ρ' H', Ext ρ H ρ' H' → SRel ρ' H' S' → Q i j H'
abbrev PDR (X : Cx) (e : Expr) (m : MR) : Prop := PRg X e (tDR X.K m)
@[simp] def rg1 (a : ME) : MR := fun σ S => (a σ S).bind fun r => match r.1 with
  | .d (.int n) => some ((0, n), r.2)
  | _ => none
@[simp] def rg2 (a b : ME) : MR := fun σ S => (a σ S).bind fun r => (b σ r.2).bind fun q => match r.1, q.1 with
  | .d (.int i), .d (.int j) => some ((i, j), q.2)
  | _, _ => none
theorem dr_1 {a : Expr} {m : ME} {p pos : Pos} (hg : Gl X "range") (hm : X.mg "range" = none) (ha : PD X a m) (na : starEach [a] X.env = (false, eval a X.env) :: starEach [] X.env := by rfl) : PDR X (.Call (.Name "range" p) [a] [] pos) (rg1 m) :=
  fun pins s σ H Q I ⟨ρ, σd, S, i, j, S', hs, he, hmm, q⟩ => prg_1 hg hm ha na pins s σ H Q I (by
    obtain ⟨⟨w1, S1⟩, h1, hmm⟩ := Option.bind_eq_some_iff.mp hmm
    refine ⟨ρ, σd, S, w1, S1, hs, he, h1, fun ρ1 v1 H1 e1 s1 r1 => ?_⟩
    dsimp only at hmm
    split at hmm
    · cases hmm
      cases r1
      exact ⟨_, rfl, q ρ1 H1 e1 s1⟩
    · cases hmm)
theorem dr_2 {a b : Expr} {ma mb : ME} {p pos : Pos} (hg : Gl X "range") (hm : X.mg "range" = none) (ha : PD X a ma) (hb : PD X b mb) (na : starEach [a, b] X.env = (false, eval a X.env) :: starEach [b] X.env := by rfl)
    (nb : starEach [b] X.env = (false, eval b X.env) :: starEach [] X.env := by rfl) (hp : (backTo pos (starEach [b] X.env)).any (·.1) = false := by rfl) : PDR X (.Call (.Name "range" p) [a, b] [] pos) (rg2 ma mb) :=
  fun pins s σ H Q I ⟨ρ, σd, S, i, j, S', hs, he, hmm, q⟩ => prg_2 hg hm ha hb na nb hp pins s σ H Q I (by
    obtain ⟨⟨w1, S1⟩, h1, hmm⟩ := Option.bind_eq_some_iff.mp hmm
    obtain ⟨⟨w2, S2⟩, h2, hmm⟩ := Option.bind_eq_some_iff.mp hmm
    refine ⟨ρ, σd, S, w1, S1, hs, he, h1, fun ρ1 v1 H1 e1 s1 r1 => ⟨ρ1, σd, S1, w2, S2, s1, he.ext e1, h2, fun ρ2 v2 H2 e2 s2 r2 => ?_⟩⟩
    dsimp only at hmm
    split at hmm
    · cases hmm
      cases r1; cases r2
      exact ⟨_, _, rfl, rfl, q ρ2 H2 (e1.trans e2) s2⟩
    · cases hmm)
def rgOk (i j : Int) : Bool := big62 i && big62 j && says ((j - i).toNat ≤ 16777216)
theorem rgOk_of {i j : Int} (h : rgOk i j = true) : RgOk i j := by
  unfold rgOk big62 at h
  rw [Bool.and_eq_true, Bool.and_eq_true, says_iff, says_iff, says_iff] at h
  exact ⟨h.1.1.1, h.1.1.2, h.1.2.1, h.1.2.2, h.2⟩
@[simp] def mListR (m : MR) : ME := fun σ S => (m σ S).bind fun r => if rgOk r.1.1 r.1.2 = true then some (.d (.list (rangeD r.1.1 (r.1.2 - r.1.1).toNat)), r.2) else none
@[simp] def mTupR (m : MR) : ME := fun σ S => (m σ S).bind fun r => if rgOk r.1.1 r.1.2 = true then some (.d (.tuple (rangeD r.1.1 (r.1.2 - r.1.1).toNat)), r.2) else none
theorem d_listR {e : Expr} {m : MR} {p pos : Pos} (hc : X.calm = true) (hg : Gl X "list") (hm : X.mg "list" = none) (he : PDR X e m) (na : starEach [e] X.env = (false, eval e X.env) :: starEach [] X.env := by rfl) : PD X (.Call (.Name "list" p) [e] [] pos) (mListR m) :=
  peImp (pe_listRg hc hg hm he na) fun σ H Q ⟨ρ, σd, S, w, S', hs, he, hmm, q⟩ => by
    obtain ⟨⟨⟨i, j⟩, S1⟩, h1, hmm⟩ := Option.bind_eq_some_iff.mp hmm
    obtain ⟨hf, hmm⟩ := some_if hmm
    cases hmm
    exact ⟨ρ, σd, S, i, j, _, hs, he, h1, fun ρ1 H1 e1 s1 => ⟨rgOk_of hf, fun p hp => q ρ1 _ _ (e1.trans (Ext.new hp)) (s1.new hp) (.lst upd_same (s1.fresh hp) ((rangeD_rep i j).ext (Ext.new hp)))⟩⟩
theorem d_tupR {e : Expr} {m : MR} {p pos : Pos} (hc : X.calm = true) (hg : Gl X "tuple") (hm : X.mg "tuple" = none) (he : PDR X e m) (na : starEach [e] X.env = (false, eval e X.env) :: starEach [] X.env := by rfl) : PD X (.Call (.Name "tuple" p) [e] [] pos) (mTupR m) :=
  peImp (pe_tupRg hc hg hm he na) fun σ H Q ⟨ρ, σd, S, w, S', hs, he, hmm, q⟩ => by
    obtain ⟨⟨⟨i, j⟩, S1⟩, h1, hmm⟩ := Option.bind_eq_some_iff.mp hmm
    obtain ⟨hf, hmm⟩ := some_if hmm
    cases hmm
    exact ⟨ρ, σd, S, i, j, _, hs, he, h1, fun ρ1 H1 e1 s1 => ⟨rgOk_of hf, fun p hp => q ρ1 _ _ (e1.trans (Ext.new hp)) (s1.new hp) (.tup upd_same (s1.fresh hp) ((rangeD_rep i j).ext (Ext.new hp)))⟩⟩

/-! repr -/
def showOk (d : D) : Bool := d.showable && !d.hasDict && decide (d.depth ≤ 64) && fits d.shown.length
def vRepr (S : Sto) (x : W) : Option W := (asD S x).bind fun d => if showOk d = true then some (.d (.str d.shown)) else none
theorem c_repr (hG : X.A.guards = some []) (hu : X.A.units + 66 < cLine) : CallD X (.builtin "repr") (pure1 vRepr) := call1_of fun pins s σ H v u Q ρ S x w I r hs rx hg q => by
  obtain ⟨d, h1, hg⟩ := Option.bind_eq_some_iff.mp hg
  obtain ⟨hf, hg⟩ := some_if hg
  cases hg
  unfold showOk at hf
  rw [Bool.and_eq_true, Bool.and_eq_true, Bool.and_eq_true, Bool.not_eq_true', decide_eq_true_eq] at hf
  obtain ⟨⟨⟨f1, f2⟩, f3⟩, f4⟩ := hf
  have qq := q ρ (.str d.shown) H .refl hs (.str _)
  have dp := asD_dp hs rx h1
  obtain ⟨as, rd⟩ := Dp.reads I d v u dp r
  have ref : ∀ a, u = Value.ref a → wpAny (model X.prog X.w) X.A (call (.builtin "repr") [u]) (EP X pins σ Q) X.xe s := by
    rintro a rfl
    exact PySem.repr_of_reads' rd f1 (PySem.PyData.noDict_hsm f2) hG (by omega) (fun b o e => e) (fun h' u' tk hk => ⟨.str d.shown, H, I.kept hk, ⟨_, rfl⟩, qq⟩) (fits_ok f4)
  cases dp with
  | non => cases r; exact PySem.P.repr_of_none ⟨.str (PyData.shown .none), H, I.tok _, ⟨_, by simp only [PyData.shown]; rfl⟩, qq⟩
  | bl b => cases r; exact PySem.P.repr_of_bool ⟨.str (PyData.shown (.bool b)), H, I.tok _, ⟨_, by simp only [PyData.shown]; rfl⟩, qq⟩
  | int i =>
    obtain ⟨t, rfl⟩ := r
    exact PySem.P.repr_of_int (of_decide_eq_true f1) ⟨.str (PyData.shown (.int i)), H, I.tok _, ⟨_, by simp only [PyData.shown]; rfl⟩, qq⟩
  | str z =>
    obtain ⟨t, rfl⟩ := r
    exact PySem.P.repr_of_str ⟨.str (PyData.shown (.str z)), H, I.tok _, ⟨_, by simp only [PyData.shown]; rfl⟩, qq⟩ (by have := fits_ok f4; simpa only [PyData.shown] using this)
  | lst _ _ => exact ref _ r
  | tup _ _ => exact ref _ r

/-! methods of lists -/
def isLoc (S : Sto) : W → Bool
  | .loc i => match S[i]? with
    | some (.lst _) => true
    | _ => false
  | .d (.list _) => true
  | _ => false
theorem ty_list : TyD X "list" isLoc := fun ρ H S w v hs r h => by
  cases w with
  | d x =>
    cases x with
    | list xs =>
      obtain ⟨a, vs, rfl, h1, _⟩ := rep_lst r
      exact .inl ⟨rfl, vs, SqL.of h1⟩
    | _ => cases h
  | loc i =>
    simp only [isLoc] at h
    split at h
    · rename_i xs e
      obtain ⟨a, vs, rfl, _, h2, _⟩ := hs.lst_at r e
      exact .inl ⟨rfl, vs, SqL.of h2⟩
    · cases h
  | _ => cases h
def gAppend : GM := fun S x ws => match x, ws with
  | .loc i, [.d y] => match S[i]? with
    | some (.lst xs) => if fits (xs.length + 1) = true then some (.d .none, S.set i (.lst (xs ++ [y]))) else none
    | _ => none
  | _, _ => none
theorem t_append : MtD X "list.append" gAppend := by
  rintro pins s σ H x vs v us Q I rx rvs ⟨ρ, S, w, ws, w', S', hs, rw', rws, hg, q⟩
  unfold gAppend at hg
  split at hg
  · rename_i i y
    split at hg
    · rename_i xs e
      obtain ⟨hf, hg⟩ := some_if hg
      cases hg
      obtain ⟨a, zs, rfl, hl, h2, h3⟩ := hs.lst_at rw' e
      obtain ⟨z, rfl, rz⟩ := rws.one
      have hm := List.mem_of_getElem? hl
      refine mt_append pins s σ H _ _ _ _ Q I rx rvs ⟨a, zs, z, rfl, rfl, h2, by rw [← h3.length]; exact fits_lt hf, ?_⟩
      exact q ρ _ _ (Ext.write hm) (hs.write hl ⟨_, upd_same, (h3.append (.cons rz .nil)).ext (Ext.write hm)⟩) .non
    · cases hg
  · cases hg
def gExtend : GM := fun S x ws => match x, ws with
  | .loc i, [.d (.list ys)] => match S[i]? with
    | some (.lst xs) => if fits (xs.length + ys.length) = true then some (.d .none, S.set i (.lst (xs ++ ys))) else none
    | _ => none
  | _, _ => none
theorem t_extend : MtD X "list.extend" gExtend := by
  rintro pins s σ H x vs v us Q I rx rvs ⟨ρ, S, w, ws, w', S', hs, rw', rws, hg, q⟩
  unfold gExtend at hg
  split at hg
  · rename_i i ys
    split at hg
    · rename_i xs e
      obtain ⟨hf, hg⟩ := some_if hg
      cases hg
      obtain ⟨a, zs, rfl, hl, h2, h3⟩ := hs.lst_at rw' e
      obtain ⟨z, rfl, rz⟩ := rws.one
      obtain ⟨b, us', rfl, g1, g2, g3⟩ := rep_lst rz
      have hm := List.mem_of_getElem? hl
      refine mt_extend pins s σ H _ _ _ _ Q I rx rvs ⟨a, b, zs, us', rfl, rfl, h2, g1, by rw [← h3.length, ← g3.length]; exact fits_ok hf, ?_⟩
      exact q ρ _ _ (Ext.write hm) (hs.write hl ⟨_, upd_same, (h3.append g3).ext (Ext.write hm)⟩) .non
    · cases hg
  · cases hg
/-- the first place of an equal item -/
def indexD (d : D) : List D → Option Nat
  | [] => none
  | z :: ds => if PyData.eqv z d = true then some 0 else (indexD d ds).map (· + 1)
theorem indexD_spec {d : D} : ∀ {ds : List D} {j : Nat}, indexD d ds = some j → ∃ z, ds[j]? = some z ∧ PyData.eqv z d = true ∧ ∀ m z', m < j → ds[m]? = some z' → PyData.eqv z' d = false
  | [], _, h => by cases h
  | z :: ds, j, h => by
    unfold indexD at h
    split at h
    · rename_i e
      cases h
      exact ⟨z, rfl, e, fun m z' hm => by omega⟩
    · rename_i e
      rw [Option.map_eq_some_iff] at h
      obtain ⟨k, hk, rfl⟩ := h
      obtain ⟨z0, h1, h2, h3⟩ := indexD_spec hk
      refine ⟨z0, h1, h2, fun m z' hm hz => ?_⟩
      cases m with
      | zero => simp at hz; subst hz; simpa using e
      | succ m => exact h3 m z' (by omega) (by simpa using hz)
def gIndex : GM := fun S x ws => match ws with
  | [.d y] => (asL S x).bind fun ds => if (flatD y && ds.all flatD) = true then (indexD y ds).map fun (j : Nat) => (W.d (.int (j : Int)), S) else none
  | _ => none
theorem t_index : MtD X "list.index" gIndex := by
  rintro pins s σ H x vs v us Q I rx rvs ⟨ρ, S, w, ws, w', S', hs, rw', rws, hg, q⟩
  unfold gIndex at hg
  split at hg
  · rename_i y
    obtain ⟨ds, hL, hg⟩ := Option.bind_eq_some_iff.mp hg
    split at hg
    · rename_i hf
      rw [Option.map_eq_some_iff] at hg
      obtain ⟨j, hj, h2⟩ := hg
      cases h2
      rw [Bool.and_eq_true] at hf
      obtain ⟨a, zs, rfl, hq, hr⟩ := asL_rel hs rw' hL
      obtain ⟨z, rfl, rz⟩ := rws.one
      obtain ⟨d0, h1, h2, h3⟩ := indexD_spec hj
      obtain ⟨z0, g1, g2⟩ := hr.get h1
      have fl := flatL_rel hr hf.2
      have fd : ∀ {m : Nat} {e : D}, ds[m]? = some e → flatD e = true := fun {m e} he => List.all_eq_true.mp hf.2 e (List.mem_of_getElem? he)
      refine mt_index pins s σ H _ _ _ _ Q I rx rvs ⟨a, zs, z, j, z0, rfl, rfl, hq, flat_rel rz hf.1, fl, g1, by rw [eqV_rel g2 rz (fd h1) hf.1]; exact h2, fun m z' hm hz => ?_, q ρ _ H .refl hs (.int _)⟩
      obtain ⟨e, he, hre⟩ := hr.getV hz
      rw [eqV_rel hre rz (fd he) hf.1]
      exact h3 m e hm he
    · cases hg
  · cases hg
end
end DL

set_option Elab.async false
set_option linter.all false
set_option maxRecDepth 100000
set_option autoImplicit false
noncomputable section
/-! The data layer: dicts walked (locked for a statement), a list or a tuple walked, lists unpacked. -/
namespace DL
open PySem PySem.Spec PyProof.Rows L2
/-! ### a dict is locked, and let go -/
def Dic : HO → Prop
  | .dK _ => True
  | .dT _ => True
  | _ => False
/-- H1 is H but for the dict at d: locked or not -/
structure Step (H H1 : Hp) (d : Addr) (u : HO) : Prop where
  ne : ∀ a, a ≠ d → H1 a = H a
  dic : Dic u
  l : Rd H d u
  r : Rd H1 d u
theorem Step.symm {H H1 : Hp} {d : Addr} {u : HO} (s : Step H H1 d u) : Step H1 H d u := ⟨fun a h => (s.ne a h).symm, s.dic, s.r, s.l⟩
theorem Step.at {H H1 : Hp} {d a : Addr} {u o : HO} (s : Step H H1 d u) (h : H a = some o) (n : o ≠ u) (n2 : ∀ x, o ≠ .frz x u) : H1 a = some o := by
  by_cases e : a = d
  · subst e
    rcases s.l with q | ⟨x, q⟩
    · rw [h] at q; exact absurd (Option.some.inj q) n
    · rw [h] at q; exact absurd (Option.some.inj q) (n2 x)
  · rw [s.ne a e]; exact h
theorem Step.rd {H H1 : Hp} {d a : Addr} {u w : HO} (s : Step H H1 d u) (hw : Dic w) (h : Rd H a w) : Rd H1 a w := by
  by_cases e : a = d
  · subst e
    have : u = w := by
      rcases s.l with q | ⟨x, q⟩ <;> rcases h with p | ⟨y, p⟩ <;> rw [q] at p
      · exact Option.some.inj p
      · have := Option.some.inj p
        subst this
        exact s.dic.elim
      · have := Option.some.inj p
        subst this
        exact hw.elim
      · have := Option.some.inj p
        injection this
    subst this
    exact s.r
  · rcases h with p | ⟨y, p⟩
    · exact .inl (by rw [s.ne a e]; exact p)
    · exact .inr ⟨y, by rw [s.ne a e]; exact p⟩
section
variable {K : PySem.W.Frag} {ρ : Rho} {H H1 : Hp} {d : Addr} {u : HO} {S : Sto}
mutual
theorem Rep.step (s : Step H H1 d u) : ∀ {x : D} {v : V}, Rep ρ H x v → Rep ρ H1 x v
  | _, _, .non => .non
  | _, _, .bl b => .bl b
  | _, _, .int i => .int i
  | _, _, .str x => .str x
  | _, _, .tup h n r => .tup (s.at h (fun e => by subst e; exact s.dic.elim) (fun x e => by cases e)) n (RepL.step s r)
  | _, _, .lst h n r => .lst (s.at h (fun e => by subst e; exact s.dic.elim) (fun x e => by cases e)) n (RepL.step s r)
theorem RepL.step (s : Step H H1 d u) : ∀ {xs : List D} {vs : List V}, RepL ρ H xs vs → RepL ρ H1 xs vs
  | _, _, .nil => .nil
  | _, _, .cons r t => .cons (Rep.step s r) (RepL.step s t)
end
theorem RepKV.step {κ : Type} (s : Step H H1 d u) {kvs : List (κ × D)} {us : List (κ × V)} (h : RepKV ρ H kvs us) : RepKV ρ H1 kvs us := by
  induction h with
  | nil => exact .nil
  | cons r _ ih => exact .cons (r.step s) ih
/-- no dict is known to be locked any more -/
def unl : W → W
  | .kd _ kvs => .kd false kvs
  | .td _ kvs => .td false kvs
  | w => w
theorem RelW.step (s : Step H H1 d u) : ∀ {w : W} {v : V}, RelW K ρ H w v → RelW K ρ H1 (unl w) v
  | .d _, _, h => Rep.step s h
  | .loc i, _, h => h
  | .ct _, _, h => h
  | .sc _, _, ⟨a, e1, h⟩ => ⟨a, e1, h.imp (fun ⟨o, h1, h2⟩ => ⟨o, s.at h1 (fun e => by subst e; exact s.dic.elim) (fun x e => by
      injection e with _ e2
      subst e2
      exact s.dic.elim), h2⟩) id⟩
  | .v _, _, h => h
  | .kd _ _, _, ⟨a, us, e1, n, h1, _, h2⟩ => ⟨a, us, e1, n, s.rd trivial h1, fun z => (by cases z), h2.step s⟩
  | .td _ _, _, ⟨a, us, e1, n, h1, _, h2⟩ => ⟨a, us, e1, n, s.rd trivial h1, fun z => (by cases z), h2.step s⟩
def unlE (σ : Env) : Env := σ.map fun o => o.map unl
theorem unlE_get {σ : Env} {i : Nat} {w : W} (h : (unlE σ)[i]? = some (some w)) : ∃ w', σ[i]? = some (some w') ∧ w = unl w' := by
  unfold unlE at h
  rw [List.getElem?_map] at h
  cases e : σ[i]? with
  | none => rw [e] at h; cases h
  | some o =>
    rw [e] at h
    cases o with
    | none => simp at h
    | some w' => simp at h; exact ⟨w', rfl, h.symm⟩
theorem RelE.step {σd : Env} {σ : L2.St} (s : Step H H1 d u) (h : RelE K ρ H σd σ) : RelE K ρ H1 (unlE σd) σ :=
  ⟨by unfold unlE; rw [List.length_map]; exact h.len, fun i w hi => by
    obtain ⟨w', h1, rfl⟩ := unlE_get hi
    obtain ⟨v, h2, h3⟩ := h.get i w' h1
    exact ⟨v, h2, h3.step s⟩⟩
theorem ORel.step (s : Step H H1 d u) {a : Addr} (e : H1 a = H a) : ∀ {o : O}, ORel ρ H a o → ORel ρ H1 a o
  | .lst _, ⟨vs, h1, r⟩ => ⟨vs, e.trans h1, r.step s⟩
  | .dK _, ⟨vs, h1, r⟩ => ⟨vs, e.trans h1, r.step s⟩
  | .dT _, ⟨vs, h1, r⟩ => ⟨vs, e.trans h1, r.step s⟩
  | .dead, h1 => h1
theorem SRel.step (s : Step H H1 d u) (n : ρ.Fr d) (h : SRel ρ H S) : SRel ρ H1 S :=
  ⟨h.len, fun i a e => by
    obtain ⟨o, h1, h2⟩ := h.obj i a e
    have hne : a ≠ d := fun z => n.1 (z ▸ List.mem_of_getElem? e)
    exact ⟨o, h1, h2.step s (s.ne a hne)⟩, h.inj, h.live, fun a ha => by
    obtain ⟨⟨xs, e⟩, m⟩ := h.blk a ha
    have hne : a ≠ d := fun z => n.2 (z ▸ ha)
    exact ⟨⟨xs, by rw [s.ne a hne]; exact e⟩, m⟩⟩
end
/-! ### the lock -/
def lockW : W → Option W
  | .kd _ kvs => some (.kd true kvs)
  | .td _ kvs => some (.td true kvs)
  | _ => none
def unlO : Out → Out
  | .nx σ S => .nx (unlE σ) S
  | .bk σ S => .bk (unlE σ) S
  | .ct σ S => .ct (unlE σ) S
  | .rt w S => .rt (unl w) S
def mLock (i : Nat) (m : MS) : MS := fun σ S => (σ[i]?.bind id).bind fun w => (lockW w).bind fun w' => (m ((unlE σ).set i (some w')) S).map unlO
section
variable {K : PySem.W.Frag} {ρ : Rho} {H H1 : Hp} {d : Addr} {u : HO} {S : Sto}
theorem RelW.unl : ∀ {w : W} {v : V}, RelW K ρ H w v → RelW K ρ H (unl w) v
  | .d _, _, h => h
  | .loc i, _, h => h
  | .ct _, _, h => h
  | .sc _, _, h => h
  | .v _, _, h => h
  | .kd _ _, _, ⟨a, us, e1, n, h1, _, h2⟩ => ⟨a, us, e1, n, h1, fun z => (by cases z), h2⟩
  | .td _ _, _, ⟨a, us, e1, n, h1, _, h2⟩ => ⟨a, us, e1, n, h1, fun z => (by cases z), h2⟩
theorem RelE.unl {σd : Env} {σ : L2.St} (h : RelE K ρ H σd σ) : RelE K ρ H (unlE σd) σ :=
  ⟨by unfold unlE; rw [List.length_map]; exact h.len, fun i w hi => by
    obtain ⟨w', h1, rfl⟩ := unlE_get hi
    obtain ⟨v, h2, h3⟩ := h.get i w' h1
    exact ⟨v, h2, h3.unl⟩⟩
theorem RelE.put {σd : Env} {σ : L2.St} (h : RelE K ρ H σd σ) {i : Nat} {v : V} (e : σ[i]? = some (some v)) {w : W} (r : RelW K ρ H w v) : RelE K ρ H (σd.set i (some w)) σ :=
  ⟨by rw [List.length_set]; exact h.len, fun j w' hj => by
    by_cases g : i = j
    · subst g
      rw [List.getElem?_set] at hj
      simp at hj
      obtain ⟨_, rfl⟩ := hj
      exact ⟨v, e, r⟩
    · rw [List.getElem?_set_ne g] at hj
      exact h.get j w' hj⟩
theorem step_ext {ρ' : Rho} {H' : Hp} (s : Step H H1 d u) (n : ρ.Fr d) (h : H d = some u) (e : Ext ρ H1 ρ' H') {o : Obj} (h1 : H1 d = some (.frz o u)) : Ext ρ H ρ' (upd H' d u) := by
  have hk := e.keep d _ h1 n.1
  refine ⟨fun a w ha na => ?_, e.loc, e.len, fun a ha => ?_, fun a ha => ?_, e.bsub⟩
  · by_cases g : a = d
    · subst g
      rw [h] at ha; cases ha
      exact ⟨upd_same, hk.2⟩
    · rw [upd_ne g]
      exact e.keep a w (by rw [s.ne a g]; exact ha) na
  · by_cases g : a = d
    · subst g; rw [upd_same] at ha; cases ha
    · rw [upd_ne g] at ha
      rw [← s.ne a g]
      exact e.dom a ha
  · rcases e.bnew a ha with z | z
    · exact .inl z
    · by_cases g : a = d
      · subst g; rw [h1] at z; cases z
      · exact .inr (by rw [← s.ne a g]; exact z)
theorem lock_out {D : Ends} {out : Out} {o : Obj} (n : ρ.Fr d) (hd : H d = some u) (dic : Dic u) (q : OutOk K ρ H D (unlO out)) :
    OutOk K ρ (upd H d (.frz o u)) ⟨fun σ' H' => H' d = some (.frz o u) ∧ D.nx σ' (upd H' d u), fun v H' => H' d = some (.frz o u) ∧ D.rt v (upd H' d u), fun σ' H' => H' d = some (.frz o u) ∧ D.bk σ' (upd H' d u), fun σ' H' => H' d = some (.frz o u) ∧ D.ct σ' (upd H' d u)⟩ out := by
  have s0 : Step H (upd H d (.frz o u)) d u := ⟨fun b h => upd_ne h, dic, .inl hd, .inr ⟨o, upd_same⟩⟩
  have go : ∀ {ρ' : Rho} {H' : Hp}, Ext ρ (upd H d (.frz o u)) ρ' H' → H' d = some (.frz o u) ∧ Step H' (upd H' d u) d u ∧ ρ'.Fr d ∧ Ext ρ H ρ' (upd H' d u) := fun {ρ'} {H'} e => by
    have h1 := e.at upd_same n
    exact ⟨h1.1, ⟨fun b h => upd_ne h, dic, .inr ⟨o, h1.1⟩, .inl upd_same⟩, h1.2, step_ext s0 n hd e upd_same⟩
  cases out with
  | nx σo So => exact fun ρ' σ' H' e s r => let ⟨a, b, c, f⟩ := go e; ⟨a, q ρ' σ' _ f (s.step b c) (r.step b)⟩
  | bk σo So => exact fun ρ' σ' H' e s r => let ⟨a, b, c, f⟩ := go e; ⟨a, q ρ' σ' _ f (s.step b c) (r.step b)⟩
  | ct σo So => exact fun ρ' σ' H' e s r => let ⟨a, b, c, f⟩ := go e; ⟨a, q ρ' σ' _ f (s.step b c) (r.step b)⟩
  | rt w So => exact fun ρ' v H' e s r => let ⟨a, b, c, f⟩ := go e; ⟨a, q ρ' v _ f (s.step b c) (r.step b)⟩
theorem unl_out {D : Ends} {out : Out} (q : OutOk K ρ H D (unlO out)) : OutOk K ρ H D out := by
  cases out with
  | nx σo So => exact fun ρ' σ' H' e s r => q ρ' σ' _ e s r.unl
  | bk σo So => exact fun ρ' σ' H' e s r => q ρ' σ' _ e s r.unl
  | ct σo So => exact fun ρ' σ' H' e s r => q ρ' σ' _ e s r.unl
  | rt w So => exact fun ρ' v H' e s r => q ρ' v _ e s r.unl
end
section
variable {X : Cx} {e tg : Expr} {st : Stmt}
theorem d_lock (i : Nat) {m : MS} (h : PDS X st m) : PDS X st (mLock i m) := by
  refine ⟨fun pins s σ H D I hw => ?_⟩
  obtain ⟨ρ, σd, S, out, hs, he, hm, q⟩ := hw
  obtain ⟨w, h1, hm⟩ := Option.bind_eq_some_iff.mp hm
  obtain ⟨w', h2, hm⟩ := Option.bind_eq_some_iff.mp hm
  rw [Option.map_eq_some_iff] at hm
  obtain ⟨out1, h3, rfl⟩ := hm
  have hi : σd[i]? = some (some w) := by
    obtain ⟨o, e1, e2⟩ := Option.bind_eq_some_iff.mp h1
    simp at e2
    rw [e1, e2]
  obtain ⟨v, hv, rw'⟩ := he.get i w hi
  cases w with
  | kd b kvs =>
    cases h2
    obtain ⟨a, us, rfl, n, hr, _, kv⟩ := rw'
    rcases hr with hd | ⟨o, hd⟩
    · refine (ps_lock h).run pins s σ H D I ⟨a, .dK us, hd, trivial, fun od => ?_⟩
      have s0 : Step H (upd H a (.frz od (.dK us))) a (.dK us) := ⟨fun b h => upd_ne h, trivial, .inl hd, .inr ⟨od, upd_same⟩⟩
      exact ⟨ρ, _, S, out1, hs.step s0 n, (he.step s0).put hv (w := .kd true kvs) ⟨a, us, rfl, n, .inr ⟨od, upd_same⟩, fun _ => ⟨od, upd_same⟩, kv.step s0⟩, h3, lock_out n hd trivial q⟩
    · exact h.run pins s σ H D I ⟨ρ, _, S, out1, hs, he.unl.put hv (w := .kd true kvs) ⟨a, us, rfl, n, .inr ⟨o, hd⟩, fun _ => ⟨o, hd⟩, kv⟩, h3, unl_out q⟩
  | td b kvs =>
    cases h2
    obtain ⟨a, us, rfl, n, hr, _, kv⟩ := rw'
    rcases hr with hd | ⟨o, hd⟩
    · refine (ps_lock h).run pins s σ H D I ⟨a, .dT us, hd, trivial, fun od => ?_⟩
      have s0 : Step H (upd H a (.frz od (.dT us))) a (.dT us) := ⟨fun b h => upd_ne h, trivial, .inl hd, .inr ⟨od, upd_same⟩⟩
      exact ⟨ρ, _, S, out1, hs.step s0 n, (he.step s0).put hv (w := .td true kvs) ⟨a, us, rfl, n, .inr ⟨od, upd_same⟩, fun _ => ⟨od, upd_same⟩, kv.step s0⟩, h3, lock_out n hd trivial q⟩
    · exact h.run pins s σ H D I ⟨ρ, _, S, out1, hs, he.unl.put hv (w := .td true kvs) ⟨a, us, rfl, n, .inr ⟨o, hd⟩, fun _ => ⟨o, hd⟩, kv⟩, h3, unl_out q⟩
  | _ => cases h2
/-! ### its keys, one by one -/
def kD : Key → D
  | .inl i => .int i
  | .inr x => .str x
theorem kD_rep {ρ : Rho} {H : Hp} (k : Key) : Rep ρ H (kD k) (kV k) := by
  cases k with
  | inl i => exact .int i
  | inr x => exact .str x
theorem kDs_rep {ρ : Rho} {H : Hp} : ∀ ks : List Key, RepL ρ H (ks.map kD) (ks.map kV)
  | [] => .nil
  | k :: ks => .cons (kD_rep k) (kDs_rep ks)
theorem RepKV.at {κ : Type} {ρ : Rho} {H : Hp} {kvs : List (κ × D)} {us : List (κ × V)} (h : RepKV ρ H kvs us) : ∀ {i : Nat} {k : κ} {d : D}, kvs[i]? = some (k, d) → ∃ v, us[i]? = some (k, v) := by
  induction h with
  | nil => intro i k d e; simp at e
  | cons r _ ih =>
    intro i k d e
    cases i with
    | zero => simp at e; exact ⟨_, by simp [e.1]; rfl⟩
    | succ i => simpa using ih (by simpa using e)
def keysOf : W → Option (List D)
  | .kd true kvs => some (kvs.map fun kv => kD kv.1)
  | .td true kvs => some (kvs.map fun kv => .tuple (kv.1.map kD))
  | _ => none
@[simp] def iK (m : ME) : MI := fun σ S => (m σ S).bind fun r => (keysOf r.1).map fun ds => (ds, r.2)
theorem di_keys {m : ME} (he : PD X e m) : PDI X tg e (iK m) := piImp (pi_keys he) fun σ H R ⟨ρ, σd, S, ds, S', hs, hE, hm, q⟩ => by
  obtain ⟨⟨w1, S1⟩, h1, hm⟩ := Option.bind_eq_some_iff.mp hm
  rw [Option.map_eq_some_iff] at hm
  obtain ⟨ds', h2, h3⟩ := hm
  cases h3
  refine ⟨ρ, σd, S, w1, S1, hs, hE, h1, fun ρ1 v H1 e1 s1 r1 => ?_⟩
  dsimp only at h2
  unfold keysOf at h2
  split at h2
  · rename_i kvs
    cases h2
    obtain ⟨a, us, rfl, n, _, hb, kv⟩ := r1
    obtain ⟨o, ho⟩ := hb rfl
    refine ⟨a, o, rfl, .inl ⟨us, ho, q ρ1 _ H1 e1 s1 fun ρ2 H2 S2 e2 s2 i => ?_⟩⟩
    have h4 := (e2.at ho n).1
    have hl := kv.length
    refine ⟨fun hle => ⟨h4, by simp at hle; omega⟩, fun d hd => ?_⟩
    rw [List.getElem?_map, Option.map_eq_some_iff] at hd
    obtain ⟨⟨k, x⟩, hk, rfl⟩ := hd
    obtain ⟨v, hv⟩ := kv.at hk
    refine ⟨⟨h4, (List.getElem?_eq_some_iff.mp hv).1⟩, ?_⟩
    rintro x' H' ⟨rfl, k', v', e5, rfl⟩
    rw [hv] at e5
    cases e5
    exact ⟨Gr.refl, kD_rep k⟩
  · rename_i kvs
    cases h2
    obtain ⟨a, us, rfl, n, _, hb, kv⟩ := r1
    obtain ⟨o, ho⟩ := hb rfl
    refine ⟨a, o, rfl, .inr ⟨us, ho, q ρ1 _ H1 e1 s1 fun ρ2 H2 S2 e2 s2 i => ?_⟩⟩
    have h4 := (e2.at ho n).1
    have hl := kv.length
    refine ⟨fun hle => ⟨h4, by simp at hle; omega⟩, fun d hd => ?_⟩
    rw [List.getElem?_map, Option.map_eq_some_iff] at hd
    obtain ⟨⟨k, x⟩, hk, rfl⟩ := hd
    obtain ⟨v, hv⟩ := kv.at hk
    refine ⟨⟨h4, (List.getElem?_eq_some_iff.mp hv).1⟩, ?_⟩
    rintro x' H' ⟨rfl, k', v', t, e5, rfl, ht⟩
    rw [hv] at e5
    cases e5
    refine ⟨Gr.refl, .tup ht ⟨fun z => ?_, fun z => ?_⟩ (kDs_rep k)⟩
    · obtain ⟨i', hi'⟩ := List.getElem?_of_mem z
      obtain ⟨o', _, h6⟩ := s2.obj i' t hi'
      cases o' with
      | lst _ => obtain ⟨_, h7, _⟩ := h6; rw [ht] at h7; cases h7
      | dK _ => obtain ⟨_, h7, _⟩ := h6; rw [ht] at h7; cases h7
      | dT _ => obtain ⟨_, h7, _⟩ := h6; rw [ht] at h7; cases h7
      | dead => exact h6
    · obtain ⟨⟨xs, h7⟩, _⟩ := s2.blk t z
      rw [ht] at h7; cases h7
  · cases h2
/-! ### a list or a tuple -/
def asS (w : W) : Option (List D) := match asP w with
  | some ds => some ds
  | none => asT w
@[simp] def iS (m : ME) : MI := fun σ S => (m σ S).bind fun r => (asS r.1).map fun ds => (ds, r.2)
theorem di_seq {m : ME} (he : PD X e m) : PDI X tg e (iS m) := by
  refine ⟨fun pins s σ H R I hw => ?_⟩
  obtain ⟨ρ, σd, S, ds, S', hs, hE, hm, q⟩ := hw
  obtain ⟨⟨w1, S1⟩, h1, hm⟩ := Option.bind_eq_some_iff.mp hm
  rw [Option.map_eq_some_iff] at hm
  obtain ⟨ds', h2, h3⟩ := hm
  cases h3
  unfold asS at h2
  split at h2
  · rename_i h4
    cases h2
    exact (di_list he).run pins s σ H R I ⟨ρ, σd, S, ds, S1, hs, hE, by simp only [iL, h1, Option.bind_some, h4, Option.map_some], q⟩
  · exact (di_tup he).run pins s σ H R I ⟨ρ, σd, S, ds, S1, hs, hE, by simp only [iT, h1, Option.bind_some, h2, Option.map_some], q⟩
end
/-! ### a list unpacked -/
def gLstU (n : Nat) (r : MGs) : MG := fun w σ => (asP w).bind fun ds => if decide (ds.length = n) = true then r ds σ else none
section
variable {X : Cx} {es : List Expr} {pos : Pos}
theorem dg_lst {k : Nat} {n : Nat} {r : MGs} (hc : X.calm = true) (h : PDGs X es r) (hn : (assignEach es X.env).length = n := by rfl) (hst : (assignEach es X.env).findIdx? (·.1) = none := by rfl) : PDG X (.Tuple es k pos) (gLstU n r) :=
  pgImp (pg_unl hc h hn hst) fun v σ H Q ⟨ρ, σd, S, w, σ1, hs, he, rr, hg, q⟩ => by
    obtain ⟨ds, h1, h2⟩ := Option.bind_eq_some_iff.mp hg
    obtain ⟨a, vs, rfl, ht, hr⟩ := asP_rel rr h1
    split at h2
    · rename_i hl
      exact ⟨a, vs, rfl, ht ρ H .refl, by rw [← hr.length]; exact of_decide_eq_true hl, ρ, σd, S, ds, σ1, hs, he, hr, h2, q⟩
    · cases h2
end
end DL

set_option Elab.async false
set_option linter.all false
set_option maxRecDepth 100000
set_option autoImplicit false
/-! The data layer, 8: what a printed text leans on. -/
noncomputable section
namespace DL
open PySem PySem.Spec PyProof.Rows L2

theorem u65 {k : Nat} {A : Around} (r : Room k A) : A.units + 65 < cLine := by have := r.un; omega
theorem u66 {k : Nat} {A : Around} (r : Room k A) : A.units + 66 < cLine := by have := r.un; omega
theorem b_abs : bootBuiltins "abs" = some (.builtin "abs") := by decide +kernel
theorem b_all : bootBuiltins "all" = some (.builtin "all") := by decide +kernel
theorem b_any : bootBuiltins "any" = some (.builtin "any") := by decide +kernel
theorem b_len : bootBuiltins "len" = some (.builtin "len") := by decide +kernel
theorem b_max : bootBuiltins "max" = some (.builtin "max") := by decide +kernel
theorem b_min : bootBuiltins "min" = some (.builtin "min") := by decide +kernel
theorem b_sum : bootBuiltins "sum" = some (.builtin "sum") := by decide +kernel
theorem b_repr : bootBuiltins "repr" = some (.builtin "repr") := by decide +kernel
theorem b_sorted : bootBuiltins "sorted" = some (.builtin "sorted") := by decide +kernel
theorem b_isinstance : bootBuiltins "isinstance" = some (.builtin "isinstance") := by decide +kernel
theorem b_int : bootBuiltins "int" = some (.type "int") := by decide +kernel
theorem b_bool : bootBuiltins "bool" = some (.type "bool") := by decide +kernel
theorem b_str : bootBuiltins "str" = some (.type "str") := by decide +kernel
theorem b_list : bootBuiltins "list" = some (.type "list") := by decide +kernel
theorem b_tuple : bootBuiltins "tuple" = some (.type "tuple") := by decide +kernel
theorem b_dict : bootBuiltins "dict" = some (.type "dict") := by decide +kernel
theorem b_set : bootBuiltins "set" = some (.type "set") := by decide +kernel

/-- a constant of the top -/
def Glb (K : PySem.W.Frag) (mg : Str → Option Value) (x : Str) (w : W) : Prop := ∃ v u, mg x = some u ∧ RelV v u ∧ ∀ ρ H, RelW K ρ H w v
theorem Glb.int {K : PySem.W.Frag} {mg : Str → Option Value} {x : Str} {i : Int} (h : ∃ t, mg x = some (.int i t)) : Glb K mg x (.d (.int i)) :=
  let ⟨t, e⟩ := h; ⟨.int i, _, e, ⟨t, rfl⟩, fun _ _ => .int i⟩
theorem Glb.str {K : PySem.W.Frag} {mg : Str → Option Value} {x : Str} {i : Str} (h : ∃ t, mg x = some (.str i t)) : Glb K mg x (.d (.str i)) :=
  let ⟨t, e⟩ := h; ⟨.str i, _, e, ⟨t, rfl⟩, fun _ _ => .str i⟩
theorem Glb.tup {K : PySem.W.Frag} {mg : Str → Option Value} {x : Str} {a : Addr} {vs : List V} {ds : List D} (h : mg x = some (.ref a)) (q : ∀ H, SqT K H a vs) (f : FlatL ds vs) : Glb K mg x (.ct ds) :=
  ⟨.ref a, _, h, rfl, fun _ _ => ⟨a, vs, rfl, q, f⟩⟩
theorem Glb.name {X : Cx} {x : Str} {w : W} {pos : Pos} (h : Glb X.K X.mg x w) (hg : Gl X x) (hd : (x == ("__debug__" : Str)) = false := by decide) : PD X (.Name x pos) (mC w) :=
  let ⟨_, _, e, r, rw'⟩ := h
  d_glob hg e r rw' hd

/-- a def of the top that is called by its name -/
structure Cal (P : Program) (w : World) (K : PySem.W.Frag) (mg : Str → Option Value) (base : Heap) (k : Nat) (x : Str) (n : Nat) (g : Fn) : Prop where
  ex : ∃ (f : Addr) (fd : FuncData) (ps : List Str), FnG P w K mg base CX0 k f fd ps (spD K n g) ∧ mg x = some (.ref f) ∧ PySem.W.keepIn K (.ref f) = true ∧ Binds K fd ps [] ∧ ps.length = n
/-- .. by keywords -/
structure CalK (P : Program) (w : World) (K : PySem.W.Frag) (mg : Str → Option Value) (base : Heap) (k : Nat) (x : Str) (n : Nat) (g : Fn) (ks : List Str) (is : List Nat) : Prop where
  ex : ∃ (f : Addr) (fd : FuncData) (ps : List Str), FnG P w K mg base CX0 k f fd ps (spD K n g) ∧ mg x = some (.ref f) ∧ PySem.W.keepIn K (.ref f) = true ∧ ps.length = n ∧
    ∀ (s : Shared) (ws : List Value), (permL is ws).length = ps.length → BindsTo s fd ⟨[], ks.zip ws⟩ (ps.zip (permL is ws))
section
variable {P : Program} {w : World} {K : PySem.W.Frag} {mg : Str → Option Value} {base : Heap} {k n : Nat} {x : Str} {g : Fn} {st : Stmt} {f : Addr} {fd : FuncData} {N ps : List Str} {b : MS}
theorem fn_mk {n : Nat} (F : FunD K x x (defArgs st) (defBody st) (defScope st) [] [] f fd) (S : FnScope N ps (defScope st)) (hn : ps.length = n) {m : Nat} (hN : N.length = m)
    (h : ∀ (cdv : Value) (A : Around) (outer : List PySem.Env) (s : Shared) (H : Hp) (E : XK), (cxOf CX0 P w K mg base N x (defScope st) f cdv A outer s H E).nox.A.guards = some [] → Room k (cxOf CX0 P w K mg base N x (defScope st) f cdv A outer s H E).nox.A →
      PDSs (cxOf CX0 P w K mg base N x (defScope st) f cdv A outer s H E).nox (defBody st) b) : FnG P w K mg base CX0 (k + 1) f fd ps (spD K n (fnD m b)) := by
  subst hn hN
  exact fn_okG F S fun cdv A outer s H E hg hr => h cdv A outer s H E hg hr
theorem fn_never : FnG P w K mg base CX0 k f fd ps (spD K n (fun _ _ => none)) := FnG.never fun vs H Q E => spD_none
theorem Cal.of (F : FunD K x x (defArgs st) (defBody st) (defScope st) [] [] f fd) (hm : mg x = some (.ref f)) (G : FnG P w K mg base CX0 k f fd ps (spD K n g)) (hn : ps.length = n)
    (hb : ∀ (kV doc pm : Value) (an : Option Addr) (cdv ct : Value) (us : List Value), us.length = ps.length → bindArgs (PySem.W.fnOf x x (defArgs st) (defBody st) (defScope st) .none kV doc pm an cdv ct) ⟨us, []⟩ = pure (ps.zip us)) : Cal P w K mg base k x n g :=
  ⟨f, fd, ps, G, hm, F.kp, F.bindsN hb, hn⟩
theorem CalK.of {ks : List Str} {is : List Nat} (F : FunD K x x (defArgs st) (defBody st) (defScope st) [] [] f fd) (hm : mg x = some (.ref f)) (G : FnG P w K mg base CX0 k f fd ps (spD K n g)) (hn : ps.length = n)
    (hb : ∀ (kV doc pm : Value) (an : Option Addr) (cdv ct : Value) (ws : List Value), (permL is ws).length = ps.length → bindArgs (PySem.W.fnOf x x (defArgs st) (defBody st) (defScope st) .none kV doc pm an cdv ct) ⟨[], ks.zip ws⟩ = pure (ps.zip (permL is ws))) :
    CalK P w K mg base k x n g ks is := by
  obtain ⟨oc, od, dV, kV, doc, pm, an, cdv, ct, osl, rfl, lk, hcd, hD, _⟩ := F.ex
  rcases hD with ⟨_, rfl⟩ | ⟨e, _⟩
  · exact ⟨f, _, ps, G, hm, F.kp, hn, fun s ws hl => .of_eq (hb kV doc pm an cdv ct ws hl)⟩
  · exact absurd rfl e
end
section
variable {X : Cx} {k n : Nat} {x : Str} {g : Fn} {p pos : Pos} {e : Expr} {es : List Expr} {m : MA}
theorem Cal.call (C : Cal X.prog X.w X.K X.mg X.base k x n g) (hG : X.A.guards = some []) (hr : Room k X.A) (hg : Gl X x) (ha : PDA X (e :: es) m)
    (hdb : (x == ("__debug__" : Str)) = false := by decide) (he : starEach (e :: es) X.env = (false, eval e X.env) :: starEach es X.env := by rfl) (hpl : (backTo pos (starEach es X.env)).any (·.1) = false := by rfl) :
    PD X (.Call (.Name x p) (e :: es) [] pos) (mCallF n g m) :=
  let ⟨_, _, _, F, hm, hk, hb, _⟩ := C.ex
  d_call F hG hr hg hm hk hb ha hdb he hpl
theorem Cal.call0 (C : Cal X.prog X.w X.K X.mg X.base k x n g) (hG : X.A.guards = some []) (hr : Room k X.A) (hg : Gl X x) (hdb : (x == ("__debug__" : Str)) = false := by decide) : PD X (.Call (.Name x p) [] [] pos) (mCallF n g mNil) :=
  let ⟨_, _, _, F, hm, hk, hb, _⟩ := C.ex
  d_call0 F hG hr hg hm hk hb hdb
theorem CalK.callK {kws : List Keyword} {ks : List Str} {is : List Nat} (C : CalK X.prog X.w X.K X.mg X.base k x n g ks is) (hG : X.A.guards = some []) (hr : Room k X.A) (hg : Gl X x)
    (ha : PDK X kws m) (hall : (backToKw pos (keywordEach kws X.env)).all (·.1.isSome) = true := by rfl) (hks : (backToKw pos (keywordEach kws X.env)).filterMap (·.1) = ks := by rfl) (hdb : (x == ("__debug__" : Str)) = false := by decide)
    (hpl : ((backTo pos (starEach [] X.env)).any (·.1) || (backToKw pos (keywordEach kws X.env)).any (·.1.isNone)) = false := by rfl) : PD X (.Call (.Name x p) [] kws pos) (mCallK is n g m) :=
  let ⟨_, _, _, F, hm, hk, _, hb⟩ := C.ex
  d_callK is F hG hr hg hm hk hb ha hall hks hdb hpl
end
end DL

set_option Elab.async false
set_option linter.all false
set_option maxRecDepth 100000
set_option autoImplicit false
/-! The data layer, what it computes: how the combinators reduce; the three defs that every law of this program opens with. -/
noncomputable section
namespace DL
open PySem PySem.Spec PyProof.Rows L2
section
variable (S : Sto) (i j : Int)
@[simp] theorem add_int : vAdd S (.d (.int i)) (.d (.int j)) = some (.d (.int (i + j))) := rfl
@[simp] theorem sub_int : vSub S (.d (.int i)) (.d (.int j)) = some (.d (.int (i - j))) := rfl
@[simp] theorem neg_int : vNeg S (.d (.int i)) = some (.d (.int (-i))) := rfl
@[simp] theorem mul_int : vMul S (.d (.int i)) (.d (.int j)) = if mulOk i j = true then some (.d (.int (i * j))) else none := rfl
@[simp] theorem fdiv_int : vFdiv S (.d (.int i)) (.d (.int j)) = if divOk j = true then some (.d (.int (i / j))) else none := rfl
theorem divOk_of {j : Int} (h1 : 0 < j) (h2 : j < 18446744073709551616) : divOk j = true := says_true ⟨h1, h2⟩
@[simp] theorem mod_int : vMod S (.d (.int i)) (.d (.int j)) = if 0 < j then some (.d (.int (i % j))) else none := by simp [vMod]
@[simp] theorem pow_int : vPow S (.d (.int i)) (.d (.int j)) = if powOk i j = true then some (.d (.int (i ^ j.toNat))) else none := rfl
@[simp] theorem cmp_int (f : Int → Int → Bool) : vCmp f S (.d (.int i)) (.d (.int j)) = some (.d (.bool (f i j))) := rfl
@[simp] theorem int22 (f : Int → Int → Int) : vInt22 f S (.d (.int i)) (.d (.int j)) = some (.d (.int (f i j))) := rfl
@[simp] theorem int2_int (f : Int → Int → Int) : vInt2 f S (.d (.int i)) (.d (.int j)) = some (.d (.int (f i j))) := rfl
theorem mulOk_l {i j : Int} (h1 : -18446744073709551616 < i) (h2 : i < 18446744073709551616) : mulOk i j = true := by unfold mulOk; simp [says_iff, h1, h2]
theorem mulOk_r {i j : Int} (h1 : -18446744073709551616 < j) (h2 : j < 18446744073709551616) : mulOk i j = true := by unfold mulOk; simp [says_iff, h1, h2]
theorem powOk_s {i j : Int} (h0 : 0 ≤ j) (h1 : j ≤ 1000000) (h2 : i.natAbs < 18446744073709551616) : powOk i j = true := by unfold powOk; simp [says_iff, h0, h1, h2]
end
@[simp] theorem eq_int (S : Sto) (i j : Int) : vEq S (.d (.int i)) (.d (.int j)) = some (.d (.bool (decide (i = j)))) := by
  have e : PyData.eqv (.int i) (.int j) = decide (i = j) := by first | rfl | simp [PyData.eqv]
  have h : ∀ i : Int, SeqAt.shaped (.int i) = true := fun i => by first | rfl | decide
  simp [vEq, strs2, asD, h, e]
@[simp] theorem ne_int (S : Sto) (i j : Int) : vNe S (.d (.int i)) (.d (.int j)) = some (.d (.bool (!decide (i = j)))) := by
  have e : PyData.eqv (.int i) (.int j) = decide (i = j) := by first | rfl | simp [PyData.eqv]
  have h : ∀ i : Int, SeqAt.shaped (.int i) = true := fun i => by first | rfl | decide
  simp [vNe, strs2, asD, h, e]
@[simp] theorem asL_d (S : Sto) (xs : List D) : asL S (.d (.list xs)) = some xs := rfl
@[simp] theorem asL_sc (S : Sto) (ns : List Int) : asL S (.sc ns) = some (ns.map PyData.int) := rfl
@[simp] theorem asL_loc (S : Sto) (i : Nat) : asL S (.loc i) = (S[i]?.bind fun o => match o with | .lst xs => some xs | _ => none) := by
  cases h : S[i]? with
  | none => simp [asL, h]
  | some o => cases o <;> simp [asL, h]
theorem loc_lst {S : Sto} {i : Nat} {xs : List D} (h : S[i]? = some (.lst xs)) : asL S (.loc i) = some xs := by simp [h]
@[simp] theorem seqOf_d (S : Sto) (xs : List D) : seqOf S (.d (.list xs)) = some xs := rfl
@[simp] theorem seqOf_t (S : Sto) (xs : List D) : seqOf S (.d (.tuple xs)) = some xs := rfl
@[simp] theorem seqOf_ct (S : Sto) (xs : List D) : seqOf S (.ct xs) = some xs := rfl
@[simp] theorem seqOf_sc (S : Sto) (ns : List Int) : seqOf S (.sc ns) = some (ns.map PyData.int) := rfl
@[simp] theorem seqOf_loc (S : Sto) (i : Nat) : seqOf S (.loc i) = asL S (.loc i) := rfl
@[simp] theorem len_seq (S : Sto) (xs : List D) : vLen S (.d (.list xs)) = some (.d (.int xs.length)) := rfl
@[simp] theorem len_tup (S : Sto) (xs : List D) : vLen S (.d (.tuple xs)) = some (.d (.int xs.length)) := rfl
@[simp] theorem len_ct (S : Sto) (xs : List D) : vLen S (.ct xs) = some (.d (.int xs.length)) := rfl
@[simp] theorem len_sc (S : Sto) (ns : List Int) : vLen S (.sc ns) = some (.d (.int ns.length)) := by simp [vLen]
@[simp] theorem len_loc (S : Sto) (i : Nat) : vLen S (.loc i) = (asL S (.loc i)).map fun ds => .d (.int ds.length) := rfl
@[simp] theorem intsOf_nil : intsOf [] = some [] := rfl
@[simp] theorem intsOf_cons (i : Int) (ds : List D) : intsOf (.int i :: ds) = (intsOf ds).map fun ns => i :: ns := rfl
@[simp] theorem boolsOf_nil : boolsOf [] = some [] := rfl
@[simp] theorem boolsOf_cons (i : Bool) (ds : List D) : boolsOf (.bool i :: ds) = (boolsOf ds).map fun ns => i :: ns := rfl
@[simp] theorem ix_list (S : Sto) (xs : List D) (i : Int) : vIx S (.d (.list xs)) (.d (.int i)) = (atI xs i).map W.d := rfl
@[simp] theorem ix_tup (S : Sto) (xs : List D) (i : Int) : vIx S (.d (.tuple xs)) (.d (.int i)) = (atI xs i).map W.d := rfl
@[simp] theorem ix_ct (S : Sto) (xs : List D) (i : Int) : vIx S (.ct xs) (.d (.int i)) = (atI xs i).map W.d := rfl
@[simp] theorem ix_sc (S : Sto) (ns : List Int) (i : Int) : vIx S (.sc ns) (.d (.int i)) = (atI (ns.map PyData.int) i).map W.d := rfl
@[simp] theorem ix_loc (S : Sto) (n : Nat) (i : Int) : vIx S (.loc n) (.d (.int i)) = (asL S (.loc n)).bind fun ds => (atI ds i).map W.d := by
  unfold vIx
  cases h : asL S (.loc n) <;> simp
theorem ixN_pos {n : Nat} {i : Int} (h0 : 0 ≤ i) (h : i < n) : ixN n i = some i.toNat := by simp [ixN, h0, h]
theorem ixN_neg {n : Nat} {i : Int} (h0 : i < 0) (h : -(n : Int) ≤ i) : ixN n i = some (i + n).toNat := by
  have : ¬ 0 ≤ i := by omega
  simp [ixN, this, h]
theorem atI_pos {α : Type} {xs : List α} {i : Int} (h0 : 0 ≤ i) (h : i < xs.length) : atI xs i = xs[i.toNat]? := by unfold atI; rw [ixN_pos h0 h]; rfl
theorem atI_nat {α : Type} {xs : List α} {n : Nat} (h : n < xs.length) : atI xs (n : Int) = xs[n]? := by rw [atI_pos (by omega) (by omega)]; simp
theorem atI_last {α : Type} {xs : List α} (h : xs ≠ []) : atI xs (-1) = xs.getLast? := by
  have hl : 0 < xs.length := List.length_pos_iff.mpr h
  unfold atI
  rw [ixN_neg (by omega) (by omega)]
  have : ((-1 : Int) + (xs.length : Int)).toNat = xs.length - 1 := by omega
  simp [List.getLast?_eq_getElem?, this]
@[simp] theorem set_last {α : Type} (S : List α) (a b : α) : (S ++ [a]).set S.length b = S ++ [b] := by simp
@[simp] theorem trim_d (n : Nat) (d : D) (S : Sto) : trim n (.d d) S = (.d d, S.take n) := rfl
@[simp] theorem take_set_len {α : Type} (S : List α) (n : Nat) (o : α) : (S.set n o).take S.length = S.set n o := List.take_of_length_le (by simp)
theorem trim_new (S : Sto) (o : O) : trim S.length (.loc S.length) (S ++ [o]) = (.loc S.length, S ++ [o]) := by simp [trim]
theorem trim_at (S T : Sto) (i : Nat) (o : O) (h : S.length ≤ i) (hT : T[i]? = some o) : trim S.length (.loc i) T = (.loc S.length, T.take S.length ++ [o]) := by simp [trim, h, hT]
/-! ### the three defs that every law here opens with -/
def bPotA (k2 k3 k4 k5 k6 : Int) : MS := mSeq (mAsg 2 (mIf (mB (mBin vLt (mVar 1) (mCall (pure1 vLen) (mCons (mVar 0) (mNil))))) (mBin vIx (mVar 0) (mVar 1)) (mBin vAdd (mBin vAdd (mBin vMod (mCall (pure1 vSum) (mCons (mCut (mVar 0) (mNoP) (mP (mInt 1))) (mNil))) (mInt 1000003)) (mBin vMul (mInt k2) (mVar 1))) (mInt k3)))) (mSeq (mAsg 3 (mBin vMul (mBin vMod (mCall (pure1 vInt) (mCons (mCall (pure1 (vInt1 absI)) (mCons (mVar 2) (mNil))) (mNil))) (mBin vPow (mBin vPow (mInt 10) (mInt 60)) (mInt 5))) (mCall (pure1 vInt) (mCons (mBin vGe (mCall (pure1 (vInt1 absI)) (mCons (mVar 2) (mNil))) (mBin vPow (mInt 10) (mInt 18))) (mNil))))) (mSeq (mAsg 4 (mBin vMod (mCall (pure1 vInt) (mCons (mVar 2) (mNil))) (mInt 2305843009213693951))) (mRet (mNew (mCons (mVar 3) (mCons (mBin vMod (mCall (pure1 vInt) (mCons (mBin vAdd (mBin vAdd (mBin vMul (mVar 4) (mInt k4)) (mBin vMul (mBin vMul (mInt k5) (mVar 1)) (mVar 1))) (mInt k6)) (mNil))) (mInt 2305843009213693921)) (mCons (mInt 0) (mNil))))))))
def bPotB (k2 k3 k4 k5 k6 : Int) : MS := mSeq (mAsg 2 (mIf (mB (mBin vLt (mVar 1) (mCall (pure1 vLen) (mCons (mVar 0) (mNil))))) (mBin vIx (mVar 0) (mVar 1)) (mBin vAdd (mBin vMul (mInt k2) (mVar 1)) (mInt k3)))) (mSeq (mAsg 3 (mBin vMul (mBin vMod (mCall (pure1 vInt) (mCons (mCall (pure1 (vInt1 absI)) (mCons (mVar 2) (mNil))) (mNil))) (mBin vPow (mBin vPow (mInt 10) (mInt 60)) (mInt 5))) (mCall (pure1 vInt) (mCons (mBin vGe (mCall (pure1 (vInt1 absI)) (mCons (mVar 2) (mNil))) (mBin vPow (mInt 10) (mInt 18))) (mNil))))) (mSeq (mAsg 4 (mBin vMod (mCall (pure1 vInt) (mCons (mVar 2) (mNil))) (mInt 2305843009213693951))) (mRet (mNew (mCons (mVar 3) (mCons (mBin vMod (mCall (pure1 vInt) (mCons (mBin vAdd (mBin vAdd (mBin vMul (mVar 4) (mInt k4)) (mBin vMul (mBin vMul (mInt k5) (mVar 1)) (mVar 1))) (mInt k6)) (mNil))) (mInt 2305843009213693921)) (mCons (mInt 0) (mNil))))))))
def bTakeA (k1 k2 k3 k4 k5 : Int) : MS := mSeq (mIfS (mB (mBin vGt (mBin vIx (mVar 0) (mInt 0)) (mInt 0))) (mSeq (mAsg 2 (mBin vMod (mCall (pure1 vInt) (mCons (mBin vIx (mVar 0) (mInt 0)) (mNil))) (mVar 1))) (mSeq (mSetI vSetI (mVar 0) (mInt 0) (mBin vFdiv (mBin vIx (mVar 0) (mInt 0)) (mVar 1))) (mRet (mVar 2)))) (mSkip)) (mSeq (mSetI vSetI (mVar 0) (mInt 2) (mBin vAdd (mBin vIx (mVar 0) (mInt 2)) (mInt 1))) (mSeq (mAsg 3 (mBin vIx (mLst (mCons (mInt 2147483647) (mCons (mInt 2147483629) (mCons (mInt 2147483587) (mCons (mInt 2147483579) (mCons (mInt 2147483563) (mNil))))))) (mBin vMod (mCall (pure1 vInt) (mCons (mBin vIx (mVar 0) (mInt 2)) (mNil))) (mInt 5)))) (mSeq (mAsg 4 (mBin vMod (mCall (pure1 vInt) (mCons (mBin vPow (mCall (pure1 vInt) (mCons (mBin vAdd (mBin vAdd (mBin vIx (mVar 0) (mInt 1)) (mBin vMul (mBin vMul (mInt k1) (mBin vIx (mVar 0) (mInt 2))) (mBin vIx (mVar 0) (mInt 2)))) (mInt k2)) (mNil))) (mInt 3)) (mNil))) (mVar 3))) (mSeq (mAsg 4 (mBin vMod (mCall (pure1 vInt) (mCons (mBin vMul (mVar 4) (mBin vAdd (mBin vMod (mCall (pure1 vInt) (mCons (mVar 4) (mNil))) (mInt k3)) (mBin vMul (mInt k4) (mBin vIx (mVar 0) (mInt 2))))) (mNil))) (mInt 2305843009213693907))) (mRet (mBin vMod (mCall (pure1 vInt) (mCons (mBin vFdiv (mVar 4) (mInt k5)) (mNil))) (mVar 1)))))))
def bTakeB (k1 k2 k3 k4 k5 : Int) : MS := mSeq (mIfS (mB (mBin vGt (mBin vIx (mVar 0) (mInt 0)) (mInt 0))) (mSeq (mAsg 2 (mBin vMod (mCall (pure1 vInt) (mCons (mBin vIx (mVar 0) (mInt 0)) (mNil))) (mVar 1))) (mSeq (mSetI vSetI (mVar 0) (mInt 0) (mBin vFdiv (mBin vIx (mVar 0) (mInt 0)) (mVar 1))) (mRet (mVar 2)))) (mSkip)) (mSeq (mSetI vSetI (mVar 0) (mInt 2) (mBin vAdd (mBin vIx (mVar 0) (mInt 2)) (mInt 1))) (mSeq (mAsg 3 (mBin vIx (mLst (mCons (mInt 2147483647) (mCons (mInt 2147483629) (mCons (mInt 2147483587) (mCons (mInt 2147483579) (mCons (mInt 2147483563) (mNil))))))) (mBin vMod (mCall (pure1 vInt) (mCons (mBin vIx (mVar 0) (mInt 2)) (mNil))) (mInt 5)))) (mSeq (mAsg 4 (mBin vMod (mCall (pure1 vInt) (mCons (mBin vPow (mBin vAdd (mBin vAdd (mBin vIx (mVar 0) (mInt 1)) (mBin vMul (mBin vMul (mInt k1) (mBin vIx (mVar 0) (mInt 2))) (mBin vIx (mVar 0) (mInt 2)))) (mInt k2)) (mInt 3)) (mNil))) (mVar 3))) (mSeq (mAsg 4 (mBin vMod (mCall (pure1 vInt) (mCons (mBin vMul (mVar 4) (mBin vAdd (mBin vMod (mCall (pure1 vInt) (mCons (mVar 4) (mNil))) (mInt k3)) (mBin vMul (mInt k4) (mBin vIx (mVar 0) (mInt 2))))) (mNil))) (mInt 2305843009213693907))) (mRet (mBin vMod (mCall (pure1 vInt) (mCons (mBin vFdiv (mVar 4) (mInt k5)) (mNil))) (mVar 1)))))))
def bCells : MS := mRet (mListR (rg1 (mCall (pure2 (vInt22 maxI)) (mCons (mInt 1) (mCons (mCall (pure2 (vInt22 minI)) (mCons (mVar 1) (mCons (mCall (pure1 vLen) (mCons (mVar 0) (mNil))) (mNil)))) (mNil))))))
/-- what a pot is -/
def Pot (k : Int) (o : O) : Prop := ∃ a b c : Int, o = .lst [.int a, .int b, .int c] ∧ 0 ≤ b ∧ b < 2305843009213693951 ∧ 0 ≤ c ∧ c ≤ k
theorem Pot.mono {k k' : Int} {o : O} (h : Pot k o) (l : k ≤ k') : Pot k' o := by
  obtain ⟨a, b, c, e, h1, h2, h3, h4⟩ := h
  exact ⟨a, b, c, e, h1, h2, h3, by omega⟩
theorem absI_nonneg (c : Int) : 0 ≤ absI c := by unfold absI; split <;> omega
theorem powOk_b {i j : Int} (h0 : 0 ≤ j) (h : decide ((Builtin.Int.intBits i : Int) * j ≤ 134217728) = true) : powOk i j = true := by unfold powOk; simp only [Bool.and_eq_true, Bool.or_eq_true, says_iff]; exact ⟨h0, .inr (of_decide_eq_true h)⟩
theorem pow_ten60 : powOk 10 60 = true := powOk_s (by decide) (by decide) (by decide)
theorem pow_own : powOk 1000000000000000000000000000000000000000000000000000000000000 5 = true := powOk_b (by decide) (by decide +kernel)
theorem pow_18 : powOk 10 18 = true := powOk_s (by decide) (by decide) (by decide)
def FnPot (f : Fn) : Prop := ∀ (ns : List Int) (place : Int) (S : Sto), 0 ≤ place → place < 1000 → ∃ o, f [.sc ns, .d (.int place)] S = some (.loc S.length, S ++ [o]) ∧ Pot 0 o
theorem pot_tail (k2 k3 k4 k5 k6 place : Int) (h4 : -10000000 < k4 ∧ k4 < 10000000) (h5 : -10000000 < k5 ∧ k5 < 10000000) (ns : List Int) (S : Sto) (h0 : 0 ≤ place) (h1 : place < 1000) (m : ME) (cell : Int)
    (hm : m [some (.sc ns), some (.d (.int place)), none, none, none] S = some (.d (.int cell), S)) :
    ∃ o, fnD 5 (mSeq (mAsg 2 m) (mSeq (mAsg 3 (mBin vMul (mBin vMod (mCall (pure1 vInt) (mCons (mCall (pure1 (vInt1 absI)) (mCons (mVar 2) (mNil))) (mNil))) (mBin vPow (mBin vPow (mInt 10) (mInt 60)) (mInt 5))) (mCall (pure1 vInt) (mCons (mBin vGe (mCall (pure1 (vInt1 absI)) (mCons (mVar 2) (mNil))) (mBin vPow (mInt 10) (mInt 18))) (mNil))))) (mSeq (mAsg 4 (mBin vMod (mCall (pure1 vInt) (mCons (mVar 2) (mNil))) (mInt 2305843009213693951))) (mRet (mNew (mCons (mVar 3) (mCons (mBin vMod (mCall (pure1 vInt) (mCons (mBin vAdd (mBin vAdd (mBin vMul (mVar 4) (mInt k4)) (mBin vMul (mBin vMul (mInt k5) (mVar 1)) (mVar 1))) (mInt k6)) (mNil))) (mInt 2305843009213693921)) (mCons (mInt 0) (mNil))))))))) [.sc ns, .d (.int place)] S = some (.loc S.length, S ++ [o]) ∧ Pot 0 o := by
  have e1 : mulOk (cell % 2305843009213693951) k4 = true := mulOk_r (by omega) (by omega)
  have e2 : mulOk k5 place = true := mulOk_r (by omega) (by omega)
  have e3 : mulOk (k5 * place) place = true := mulOk_r (by omega) (by omega)
  have e4 : ∀ (x : Int) (p : Prop) [Decidable p], mulOk x (if p then 1 else 0) = true := fun x p _ => by split <;> exact mulOk_r (by decide) (by decide)
  refine ⟨.lst [.int (absI cell % ((10 : Int) ^ 60) ^ 5 * (if decide ((10 : Int) ^ 18 ≤ absI cell) = true then 1 else 0)), .int ((cell % 2305843009213693951 * k4 + k5 * place * place + k6) % 2305843009213693921), .int 0], ?_, _, _, _, rfl, ?_, ?_, Int.le_refl _, Int.le_refl _⟩
  · simp [fnD, hm, pow_ten60, pow_own, pow_18, vGe, e1, e2, e3, e4, fits, trim_new]
    done
  · exact Int.emod_nonneg _ (by decide)
  · have := Int.emod_lt_of_pos (cell % 2305843009213693951 * k4 + k5 * place * place + k6) (b := 2305843009213693921) (by decide)
    omega
theorem potA_ok {k2 k3 k4 k5 k6 : Int} (h2 : -10000000 < k2 ∧ k2 < 10000000) (h4 : -10000000 < k4 ∧ k4 < 10000000) (h5 : -10000000 < k5 ∧ k5 < 10000000) : FnPot (fnD 5 (bPotA k2 k3 k4 k5 k6)) := fun ns place S h0 h1 => by
  have e2 : mulOk k2 place = true := mulOk_r (by omega) (by omega)
  by_cases hl : place < ns.length
  · have hx : ∃ x, atI (ns.map PyData.int) place = some (.int x) := by
      rw [atI_pos h0 (by simpa using hl)]
      exact ⟨ns[place.toNat]'(by omega), by simp [List.getElem?_eq_getElem (show place.toNat < ns.length by omega)]⟩
    obtain ⟨x, hx⟩ := hx
    exact pot_tail k2 k3 k4 k5 k6 place h4 h5 ns S h0 h1 _ x (by simp [vLt, hl, hx])
  · exact pot_tail k2 k3 k4 k5 k6 place h4 h5 ns S h0 h1 _ ((ns.take (min 1 ns.length)).sum % 1000003 + k2 * place + k3) (by simp [vLt, hl, e2, vCut, vSum, cutD, HT.sIx, ← List.map_take])
theorem potB_ok {k2 k3 k4 k5 k6 : Int} (h2 : -10000000 < k2 ∧ k2 < 10000000) (h4 : -10000000 < k4 ∧ k4 < 10000000) (h5 : -10000000 < k5 ∧ k5 < 10000000) : FnPot (fnD 5 (bPotB k2 k3 k4 k5 k6)) := fun ns place S h0 h1 => by
  have e2 : mulOk k2 place = true := mulOk_r (by omega) (by omega)
  by_cases hl : place < ns.length
  · have hx : ∃ x, atI (ns.map PyData.int) place = some (.int x) := by
      rw [atI_pos h0 (by simpa using hl)]
      exact ⟨ns[place.toNat]'(by omega), by simp [List.getElem?_eq_getElem (show place.toNat < ns.length by omega)]⟩
    obtain ⟨x, hx⟩ := hx
    exact pot_tail k2 k3 k4 k5 k6 place h4 h5 ns S h0 h1 _ x (by simp [vLt, hl, hx])
  · exact pot_tail k2 k3 k4 k5 k6 place h4 h5 ns S h0 h1 _ (k2 * place + k3) (by simp [vLt, hl, e2])
def FnTake (f : Fn) : Prop := ∀ (n : Nat) (S : Sto) (k u : Int) (o : O), S[n]? = some o → Pot k o → k < 1000000 → 0 < u → u < 18446744073709551616 → ∃ (d : Int) (o' : O), f [.loc n, .d (.int u)] S = some (.d (.int d), S.set n o') ∧ 0 ≤ d ∧ d < u ∧ Pot (k + 1) o'
theorem primes_at (c : Int) : ∃ p : Int, atI [PyData.int 2147483647, .int 2147483629, .int 2147483587, .int 2147483579, .int 2147483563] (c % 5) = some (.int p) ∧ 0 < p ∧ p < 2147483648 := by
  have h : c % 5 = 0 ∨ c % 5 = 1 ∨ c % 5 = 2 ∨ c % 5 = 3 ∨ c % 5 = 4 := by omega
  rcases h with h | h | h | h | h <;> (rw [h]; exact ⟨_, rfl, by decide, by decide⟩)
theorem atI3 (x y z : D) : atI [x, y, z] 0 = some x ∧ atI [x, y, z] 1 = some y ∧ atI [x, y, z] 2 = some z := ⟨rfl, rfl, rfl⟩
theorem takeA_ok {k1 k2 k3 k4 k5 : Int} (h1 : 0 ≤ k1 ∧ k1 < 200000) (h2 : 0 ≤ k2 ∧ k2 < 10000) (h3 : 0 < k3) (h4 : 0 ≤ k4 ∧ k4 < 10000) (h5 : 0 < k5 ∧ k5 < 18446744073709551616) : FnTake (fnD 5 (bTakeA k1 k2 k3 k4 k5)) := fun n S k u o hn hP hk hu hu2 => by
  obtain ⟨a, b, c, rfl, b0, b1, c0, c1⟩ := hP
  have hlt : n < S.length := (List.getElem?_eq_some_iff.mp hn).1
  have hset : ∀ o : O, (S.set n o)[n]? = some o := fun o => by simp [hlt]
  by_cases ha : 0 < a
  · refine ⟨a % u, .lst [.int (a / u), .int b, .int c], ?_, Int.emod_nonneg _ (by omega), Int.emod_lt_of_pos _ hu, a / u, b, c, rfl, b0, b1, c0, by omega⟩
    simp [fnD, bTakeA, vGt, hn, atI, ixN, ha, hu, divOk_of hu hu2, vSetI]
  · have m1 : mulOk k1 (c + 1) = true := mulOk_r (by omega) (by omega)
    have m2 : mulOk (k1 * (c + 1)) (c + 1) = true := mulOk_r (by omega) (by omega)
    have m3 : mulOk k4 (c + 1) = true := mulOk_r (by omega) (by omega)
    obtain ⟨p, hp, p0, p1⟩ := primes_at (c + 1)
    have q0 : 0 ≤ k1 * (c + 1) := Int.mul_nonneg h1.1 (by omega)
    have q1 : k1 * (c + 1) ≤ 200000 * 1000001 := Int.mul_le_mul (by omega) (by omega) (by omega) (by omega)
    have q2 : 0 ≤ k1 * (c + 1) * (c + 1) := Int.mul_nonneg q0 (by omega)
    have q3 : k1 * (c + 1) * (c + 1) ≤ 200000 * 1000001 * 1000001 := Int.mul_le_mul q1 (by omega) (by omega) (by omega)
    have w1 : powOk (b + k1 * (c + 1) * (c + 1) + k2) 3 = true := powOk_s (by omega) (by omega) (by omega)
    have r0 : 0 ≤ (b + k1 * (c + 1) * (c + 1) + k2) ^ 3 % p := Int.emod_nonneg _ (by omega)
    have r1 : (b + k1 * (c + 1) * (c + 1) + k2) ^ 3 % p < p := Int.emod_lt_of_pos _ p0
    have m4 : mulOk ((b + k1 * (c + 1) * (c + 1) + k2) ^ 3 % p) ((b + k1 * (c + 1) * (c + 1) + k2) ^ 3 % p % k3 + k4 * (c + 1)) = true := mulOk_l (by omega) (by omega)
    refine ⟨(b + k1 * (c + 1) * (c + 1) + k2) ^ 3 % p * ((b + k1 * (c + 1) * (c + 1) + k2) ^ 3 % p % k3 + k4 * (c + 1)) % 2305843009213693907 / k5 % u, .lst [.int a, .int b, .int (c + 1)], ?_, Int.emod_nonneg _ (by omega), Int.emod_lt_of_pos _ hu, a, b, c + 1, rfl, b0, b1, by omega, by omega⟩
    simp [fnD, bTakeA, vGt, hn, atI3, hset, ha, hu, divOk_of h5.1 h5.2, vSetI, ixN, m1, m2, m3, m4, hp, w1, p0, fits, h3]
theorem takeB_ok {k1 k2 k3 k4 k5 : Int} (h1 : 0 ≤ k1 ∧ k1 < 200000) (h2 : 0 ≤ k2 ∧ k2 < 10000) (h3 : 0 < k3) (h4 : 0 ≤ k4 ∧ k4 < 10000) (h5 : 0 < k5 ∧ k5 < 18446744073709551616) : FnTake (fnD 5 (bTakeB k1 k2 k3 k4 k5)) := fun n S k u o hn hP hk hu hu2 => by
  obtain ⟨a, b, c, rfl, b0, b1, c0, c1⟩ := hP
  have hlt : n < S.length := (List.getElem?_eq_some_iff.mp hn).1
  have hset : ∀ o : O, (S.set n o)[n]? = some o := fun o => by simp [hlt]
  by_cases ha : 0 < a
  · refine ⟨a % u, .lst [.int (a / u), .int b, .int c], ?_, Int.emod_nonneg _ (by omega), Int.emod_lt_of_pos _ hu, a / u, b, c, rfl, b0, b1, c0, by omega⟩
    simp [fnD, bTakeB, vGt, hn, atI, ixN, ha, hu, divOk_of hu hu2, vSetI]
  · have m1 : mulOk k1 (c + 1) = true := mulOk_r (by omega) (by omega)
    have m2 : mulOk (k1 * (c + 1)) (c + 1) = true := mulOk_r (by omega) (by omega)
    have m3 : mulOk k4 (c + 1) = true := mulOk_r (by omega) (by omega)
    obtain ⟨p, hp, p0, p1⟩ := primes_at (c + 1)
    have q0 : 0 ≤ k1 * (c + 1) := Int.mul_nonneg h1.1 (by omega)
    have q1 : k1 * (c + 1) ≤ 200000 * 1000001 := Int.mul_le_mul (by omega) (by omega) (by omega) (by omega)
    have q2 : 0 ≤ k1 * (c + 1) * (c + 1) := Int.mul_nonneg q0 (by omega)
    have q3 : k1 * (c + 1) * (c + 1) ≤ 200000 * 1000001 * 1000001 := Int.mul_le_mul q1 (by omega) (by omega) (by omega)
    have w1 : powOk (b + k1 * (c + 1) * (c + 1) + k2) 3 = true := powOk_s (by omega) (by omega) (by omega)
    have r0 : 0 ≤ (b + k1 * (c + 1) * (c + 1) + k2) ^ 3 % p := Int.emod_nonneg _ (by omega)
    have r1 : (b + k1 * (c + 1) * (c + 1) + k2) ^ 3 % p < p := Int.emod_lt_of_pos _ p0
    have m4 : mulOk ((b + k1 * (c + 1) * (c + 1) + k2) ^ 3 % p) ((b + k1 * (c + 1) * (c + 1) + k2) ^ 3 % p % k3 + k4 * (c + 1)) = true := mulOk_l (by omega) (by omega)
    refine ⟨(b + k1 * (c + 1) * (c + 1) + k2) ^ 3 % p * ((b + k1 * (c + 1) * (c + 1) + k2) ^ 3 % p % k3 + k4 * (c + 1)) % 2305843009213693907 / k5 % u, .lst [.int a, .int b, .int (c + 1)], ?_, Int.emod_nonneg _ (by omega), Int.emod_lt_of_pos _ hu, a, b, c + 1, rfl, b0, b1, by omega, by omega⟩
    simp [fnD, bTakeB, vGt, hn, atI3, hset, ha, hu, divOk_of h5.1 h5.2, vSetI, ixN, m1, m2, m3, m4, hp, w1, p0, fits, h3]
/-! ### loops -/
theorem big62_of {i : Int} (h1 : -4611686018427387904 ≤ i) (h2 : i < 4611686018427387904) : big62 i = true := by
  unfold big62
  simp [says_iff, h1, h2]
theorem rangeD_at (n : Nat) : ∀ (lo : Int) (i : Nat), i < n → (rangeD lo n)[i]? = some (.int (lo + i)) := by
  induction n with
  | zero => intro lo i h; omega
  | succ n ih =>
    intro lo i h
    cases i with
    | zero => simp [rangeD]
    | succ i =>
      have := ih (lo + 1) i (by omega)
      simp only [rangeD, List.getElem?_cons_succ, this]
      congr 2
      omega
@[simp] theorem rangeD_length (lo : Int) (n : Nat) : (rangeD lo n).length = n := rangeD_len n lo
/-- a loop that runs through, nothing handed back -/
theorem forM_nx {g : MG} {b : MS} (I : Nat → Env → Sto → Prop) : ∀ (ds : List D) (j : Nat) (σ : Env) (S : Sto), I j σ S →
    (∀ i d σ S, ds[i]? = some d → I (j + i) σ S → ∃ σ1 σ2 S2, g (.d d) σ = some σ1 ∧ b σ1 S = some (.nx σ2 S2) ∧ I (j + i + 1) σ2 S2) →
    ∃ σ' S', forM g b ds σ S = some (.nx σ' S') ∧ I (j + ds.length) σ' S'
  | [], j, σ, S, h0, _ => ⟨σ, S, rfl, h0⟩
  | d :: ds, j, σ, S, h0, hs => by
    obtain ⟨σ1, σ2, S2, h1, h2, h3⟩ := hs 0 d σ S rfl h0
    obtain ⟨σ', S', h4, h5⟩ := forM_nx I ds (j + 1) σ2 S2 h3 fun i d σ S hi hI => by
      have := hs (i + 1) d σ S (by simpa using hi) (by rw [show j + (i + 1) = j + 1 + i by omega]; exact hI)
      rw [show j + (i + 1) + 1 = j + 1 + i + 1 by omega] at this
      exact this
    refine ⟨σ', S', by simp [h1, h2, h4], ?_⟩
    rw [show j + (d :: ds).length = j + 1 + ds.length by simp; omega]
    exact h5
/-- a comprehension with no test; the store may change -/
theorem compM_st {g : MG} {m : ME} (I : Nat → Sto → Prop) (P : D → Prop) : ∀ (ds : List D) (j : Nat) (σ : Env) (S : Sto) (acc : List D), I j S → acc.length + ds.length ≤ 16777216 →
    (∀ i d S, ds[i]? = some d → I (j + i) S → ∃ σ1 x S', g (.d d) σ = some σ1 ∧ m σ1 S = some (.d x, S') ∧ P x ∧ I (j + i + 1) S') →
    ∃ xs S', compM g mYes m ds σ S acc = some (acc ++ xs, S') ∧ I (j + ds.length) S' ∧ xs.length = ds.length ∧ ∀ x ∈ xs, P x
  | [], j, σ, S, acc, h0, _, _ => ⟨[], S, by simp, h0, rfl, fun _ h => by cases h⟩
  | d :: ds, j, σ, S, acc, h0, hl, hs => by
    obtain ⟨σ1, x, S1, h1, h2, hP, h3⟩ := hs 0 d S rfl h0
    simp only [List.length_cons] at hl
    obtain ⟨xs, S', h4, h5, h6, h7⟩ := compM_st I P ds (j + 1) σ S1 (acc ++ [x]) h3 (by simp; omega) fun i d S hi hI => by
      have := hs (i + 1) d S (by simpa using hi) (by rw [show j + (i + 1) = j + 1 + i by omega]; exact hI)
      rw [show j + (i + 1) + 1 = j + 1 + i + 1 by omega] at this
      exact this
    refine ⟨x :: xs, S', ?_, ?_, by simp [h6], fun y hy => ?_⟩
    · have hf : fits (acc.length + 1) = true := decide_eq_true (by omega)
      simp only [compM, mYes] at h4 ⊢
      simp [h1, h2, hf, h4]
    · rw [show j + (d :: ds).length = j + 1 + ds.length by simp; omega]
      exact h5
    · rcases List.mem_cons.mp hy with rfl | hy
      · exact hP
      · exact h7 y hy
/-- a comprehension over data that leaves the store: map and filter -/
theorem compM_pure {g : MG} {t : MT} {m : ME} {σ : Env} {S : Sto} {p : D → Bool} {f : D → D} : ∀ (ds : List D) (acc : List D), acc.length + ds.length ≤ 16777216 →
    (∀ d ∈ ds, ∃ σ1, g (.d d) σ = some σ1 ∧ t σ1 S = some (p d, S) ∧ (p d = true → m σ1 S = some (.d (f d), S))) →
    compM g t m ds σ S acc = some (acc ++ (ds.filter p).map f, S)
  | [], acc, _, _ => by simp
  | d :: ds, acc, hl, hs => by
    obtain ⟨σ1, h1, h2, h3⟩ := hs d (by simp)
    simp only [List.length_cons] at hl
    cases hp : p d with
    | true =>
      have hf : fits (acc.length + 1) = true := decide_eq_true (by omega)
      have ih := compM_pure ds (acc ++ [f d]) (by simp; omega) fun d hd => hs d (by simp [hd])
      simp [h1, h2, hp, h3 hp, hf, ih]
    | false =>
      have ih := compM_pure ds acc (by omega) fun d hd => hs d (by simp [hd])
      simp [h1, h2, hp, ih]
/-- every entry true -/
theorem all_true : ∀ (xs : List D), (∀ x ∈ xs, x = .bool true) → ∃ bs, boolsOf xs = some bs ∧ bs.all id = true
  | [], _ => ⟨[], rfl, rfl⟩
  | x :: xs, h => by
    obtain ⟨bs, h1, h2⟩ := all_true xs fun y hy => h y (by simp [hy])
    have := h x (by simp)
    subst this
    exact ⟨true :: bs, by simp [h1], by simp [h2]⟩
def FnCells (f : Fn) : Prop := ∀ (ns : List Int) (m : Nat), m < 1000 → ∀ S : Sto, ∃ k : Nat, k ≤ m + 1 ∧ f [.sc ns, .d (.int m)] S = some (.d (.list (rangeD 0 k)), S)
theorem cells_ok : FnCells (fnD 2 bCells) := fun ns m hm S => by
  refine ⟨(maxI 1 (minI m ns.length) - 0).toNat, ?_, ?_⟩
  · unfold maxI minI
    split <;> split <;> omega
  · have h : rgOk 0 (maxI 1 (minI m ns.length)) = true := by
      unfold rgOk big62
      simp only [Bool.and_eq_true, says_iff]
      unfold maxI minI
      split <;> split <;> omega
    simp [fnD, bCells, h]
/-- the def that a round of a law asks -/
def FnRight (B : Int) (f : Fn) : Prop := ∀ (n : Nat) (S : Sto) (k : Int) (o : O), S[n]? = some o → Pot k o → k + B ≤ 1000000 → ∃ o', f [.loc n] S = some (.d (.bool true), S.set n o') ∧ Pot (k + B) o'
def bLaw (fc fp fr : Fn) (cells laps : Int) : MS := mSeq (mFor (iL (mCallF 2 fc (mCons (mVar 0) (mCons (mInt cells) (mNil))))) (gN 1) (mSeq (mAsg 2 (mCallF 2 fp (mCons (mVar 0) (mCons (mVar 1) (mNil))))) (mIfS (mNotT (mB (mCall (pure1 vAll) (mCons (mComp (iR1 (mCons (mInt laps) (mNil))) (gN 3) (mYes) (mCallF 1 fr (mCons (mVar 2) (mNil))) [3]) (mNil))))) (mRet (mBool false)) (mSkip)))) (mRet (mBool true))
theorem law_inner {fr : Fn} {B : Int} (laps : Nat) (hl : laps < 1000) (hr : FnRight B fr) (hB : 0 ≤ B) (hb : laps * B ≤ 1000000) (s0 s1 : Option W) (S : Sto) (o : O) (hp2 : Pot 0 o) :
    ∃ xs S2, compM (gN 3) mYes (mCallF 1 fr (mCons (mVar 2) mNil)) (rangeD 0 laps) [s0, s1, some (.loc S.length), none] (S ++ [o]) [] = some ([] ++ xs, S2) ∧ ∀ x ∈ xs, x = .bool true := by
  obtain ⟨xs, S2, c1, c2, c3, c4⟩ := compM_st (g := gN 3) (m := mCallF 1 fr (mCons (mVar 2) (mNil))) (fun j S' => ∃ o', S'[S.length]? = some o' ∧ Pot (j * B) o') (fun x => x = .bool true) (rangeD 0 laps) 0 [s0, s1, some (.loc S.length), none] (S ++ [o]) [] ⟨o, by simp, by simpa using hp2⟩ (by rw [rangeD_length]; show 0 + laps ≤ 16777216; omega) (by
      rintro j d T hj ⟨o', ho, hP⟩
      have hjk : j < laps := by
        have := (List.getElem?_eq_some_iff.mp hj).1
        simpa using this
      have hlt : S.length < T.length := (List.getElem?_eq_some_iff.mp ho).1
      have hle : ((0 + j : Nat) : Int) * B + B ≤ 1000000 := by
        have e : ((0 + j : Nat) : Int) * B + B = ((j + 1 : Nat) : Int) * B := by
          rw [show ((j + 1 : Nat) : Int) = (j : Int) + 1 by omega, Int.add_mul]; simp
        rw [e]
        exact Int.le_trans (Int.mul_le_mul_of_nonneg_right (by omega) hB) hb
      obtain ⟨o2, r1, r2⟩ := hr S.length T _ o' ho hP hle
      refine ⟨_, .bool true, T.set S.length o2, rfl, by simp [r1], rfl, o2, by simp [hlt], ?_⟩
      have e : ((0 + j : Nat) : Int) * B + B = ((0 + j + 1 : Nat) : Int) * B := by
        rw [show ((0 + j + 1 : Nat) : Int) = ((0 + j : Nat) : Int) + 1 by omega, Int.add_mul]; simp
      rw [← e]
      exact r2)
  exact ⟨xs, S2, c1, c4⟩
def bRound (fp fr : Fn) (laps : Int) : MS := mSeq (mAsg 2 (mCallF 2 fp (mCons (mVar 0) (mCons (mVar 1) (mNil))))) (mIfS (mNotT (mB (mCall (pure1 vAll) (mCons (mComp (iR1 (mCons (mInt laps) (mNil))) (gN 3) (mYes) (mCallF 1 fr (mCons (mVar 2) (mNil))) [3]) (mNil))))) (mRet (mBool false)) (mSkip))
theorem law_round {fp fr : Fn} {B : Int} (laps : Nat) (hl : laps < 1000) (hp : FnPot fp) (hr : FnRight B fr) (hB : 0 ≤ B) (hb : laps * B ≤ 1000000) (ns : List Int) (i : Nat) (hi : i < 1000) (y z : Option W) (S : Sto) :
    ∃ S2, bRound fp fr laps [some (.sc ns), some (.d (.int i)), y, z] S = some (.nx [some (.sc ns), some (.d (.int i)), some (.loc S.length), z] S2) := by
  have hbig : big62 (laps : Int) = true := big62_of (by omega) (by omega)
  obtain ⟨o, hp1, hp2⟩ := hp ns (i : Int) S (by omega) (by omega)
  obtain ⟨xs, S2, c1, c4⟩ := law_inner laps hl hr hB hb (some (.sc ns)) (some (.d (.int i))) S o hp2
  obtain ⟨bs, b1, b2⟩ := all_true xs c4
  refine ⟨S2, ?_⟩
  rw [List.nil_append] at c1
  have e1 : iR1 (mCons (mInt laps) mNil) [some (.sc ns), some (.d (.int i)), some (.loc S.length), z] (S ++ [o]) = some (rangeD 0 laps, S ++ [o]) := by
    simp [hbig]
  have e2 : mComp (iR1 (mCons (mInt laps) mNil)) (gN 3) mYes (mCallF 1 fr (mCons (mVar 2) mNil)) [3] [some (.sc ns), some (.d (.int i)), some (.loc S.length), z] (S ++ [o]) = some (.d (.list xs), S2) := by
    unfold mComp
    rw [e1]
    show ((compM (gN 3) mYes (mCallF 1 fr (mCons (mVar 2) mNil)) (rangeD 0 laps) [some (.sc ns), some (.d (.int i)), some (.loc S.length), none] (S ++ [o]) []).map fun q => (W.d (.list q.1), q.2)) = _
    rw [c1]
    rfl
  have e3 : mCallF 2 fp (mCons (mVar 0) (mCons (mVar 1) mNil)) [some (.sc ns), some (.d (.int i)), y, z] S = some (.loc S.length, S ++ [o]) := by simp [hp1]
  have e4 : pure1 vAll S2 [.d (.list xs)] = some (.d (.bool true), S2) := by simp [vAll, b1, b2]
  simp only [bRound, mSeq, mAsg, e3, Option.map_some, Option.bind_some, List.set_cons_succ, List.set_cons_zero, mIfS, mNotT, mB, mCall, mCons, mNil, e2, e4, asB, mSkip]
  rfl
theorem law_std {fc fp fr : Fn} {B : Int} (cells laps : Nat) (hc : cells < 900) (hl : laps < 1000) (hfc : FnCells fc) (hp : FnPot fp) (hr : FnRight B fr) (hB : 0 ≤ B) (hb : laps * B ≤ 1000000) (ns : List Int) :
    ∃ S', fnD 4 (bLaw fc fp fr cells laps) [.sc ns] [] = some (.d (.bool true), S') := by
  obtain ⟨k, hk, hcl⟩ := hfc ns cells (by omega) []
  obtain ⟨σ', S', h1, h2, h3⟩ := forM_nx (g := gN 1) (b := bRound fp fr laps) (fun i σ S => ∃ x y z, σ = [some (.sc ns), x, y, z]) (rangeD 0 k) 0 [some (.sc ns), none, none, none] [] ⟨_, _, _, rfl⟩ (by
    rintro i d σ S hi ⟨x, y, z, rfl⟩
    have hik : i < k := by
      have := (List.getElem?_eq_some_iff.mp hi).1
      simpa using this
    rw [rangeD_at k 0 i hik, Int.zero_add] at hi
    cases hi
    obtain ⟨S2, h⟩ := law_round laps hl hp hr hB hb ns i (by omega) y z S
    exact ⟨_, _, S2, rfl, h, ⟨_, _, _, rfl⟩⟩)
  exact ⟨_, by simp only [bRound] at h1; simp [fnD, bLaw, hcl, h1, -forM]; rfl⟩
end DL

set_option Elab.async false
set_option linter.all false
set_option maxRecDepth 100000
set_option autoImplicit false
noncomputable section
/-! The data layer, what it computes: more of it. -/
namespace DL
open PySem PySem.Spec PyProof.Rows L2
@[simp] theorem isi_int_int (S : Sto) (i : Int) : vIsi S (.d (.int i)) (.v (.ty "int")) = some (.d (.bool true)) := rfl
@[simp] theorem isi_int_bool (S : Sto) (i : Int) : vIsi S (.d (.int i)) (.v (.ty "bool")) = some (.d (.bool false)) := rfl
@[simp] theorem isi_int_str (S : Sto) (i : Int) : vIsi S (.d (.int i)) (.v (.ty "str")) = some (.d (.bool false)) := rfl
@[simp] theorem isi_int_tuple (S : Sto) (i : Int) : vIsi S (.d (.int i)) (.v (.ty "tuple")) = some (.d (.bool false)) := rfl
@[simp] theorem isi_tuple (S : Sto) (xs : List D) : vIsi S (.d (.tuple xs)) (.v (.ty "tuple")) = some (.d (.bool true)) := rfl
@[simp] theorem isi_list (S : Sto) (xs : List D) : vIsi S (.d (.list xs)) (.v (.ty "list")) = some (.d (.bool true)) := rfl
@[simp] theorem isi_str (S : Sto) (x : Str) : vIsi S (.d (.str x)) (.v (.ty "str")) = some (.d (.bool true)) := rfl
@[simp] theorem eqv_int (i j : Int) : PyData.eqv (.int i) (.int j) = decide (i = j) := by first | rfl | simp [PyData.eqv]
theorem atI_neg {α : Type} {xs : List α} (k : Nat) {i : Int} (hk : i = -(k : Int)) (h0 : 0 < k) (h : k ≤ xs.length) : atI xs i = xs[xs.length - k]? := by
  unfold atI
  rw [ixN_neg (by omega) (by omega)]
  have : (i + (xs.length : Int)).toNat = xs.length - k := by omega
  simp [this]
@[simp] theorem lookD_d (S : Sto) (d : D) (w : W) : lookD S (.d d) w = none := rfl
@[simp] theorem lookD_ct (S : Sto) (ds : List D) (w : W) : lookD S (.ct ds) w = none := rfl
theorem hasD_int (x : Int) (xs : List Int) : hasD (.int x) (xs.map PyData.int) = decide (x ∈ xs) := by
  unfold hasD
  induction xs with
  | nil => rfl
  | cons y ys ih =>
    simp only [List.map_cons, List.any_cons, ih, eqv_int, List.mem_cons, Bool.decide_or]
    congr 1
    exact decide_eq_decide.mpr ⟨fun h => h.symm, fun h => h.symm⟩
theorem memOk_int (x : Int) (xs : List Int) : memOk (.int x) (xs.map PyData.int) = true := by
  simp [memOk, flatD]
@[simp] theorem in_ints (S : Sto) (x : Int) (xs : List Int) : vIn S (.d (.int x)) (.d (.list (xs.map PyData.int))) = some (.d (.bool (decide (x ∈ xs)))) := by
  simp [vIn, vHas, asD, memOk_int, hasD_int]
@[simp] theorem notIn_ints (S : Sto) (x : Int) (xs : List Int) : vNotIn S (.d (.int x)) (.d (.list (xs.map PyData.int))) = some (.d (.bool (!decide (x ∈ xs)))) := by
  simp [vNotIn, vHas, asD, memOk_int, hasD_int]
@[simp] theorem in_tup (S : Sto) (x : Int) (xs : List Int) : vIn S (.d (.int x)) (.d (.tuple (xs.map PyData.int))) = some (.d (.bool (decide (x ∈ xs)))) := by
  simp [vIn, vHas, asD, memOk_int, hasD_int]
@[simp] theorem notIn_tup (S : Sto) (x : Int) (xs : List Int) : vNotIn S (.d (.int x)) (.d (.tuple (xs.map PyData.int))) = some (.d (.bool (!decide (x ∈ xs)))) := by
  simp [vNotIn, vHas, asD, memOk_int, hasD_int]
theorem indexD_at {x : Int} : ∀ {xs : List Int} {i : Nat}, xs[i]? = some x → (∀ j, j < i → xs[j]? ≠ some x) → indexD (.int x) (xs.map PyData.int) = some i
  | [], _, h, _ => by simp at h
  | y :: ys, 0, h, _ => by
    simp at h
    simp [indexD, h]
  | y :: ys, i + 1, h, hn => by
    have h0 : y ≠ x := fun e => hn 0 (by omega) (by simp [e])
    have := indexD_at (xs := ys) (i := i) (by simpa using h) fun j hj => by simpa using hn (j + 1) (by omega)
    simp [indexD, h0, this]
theorem index_at {S : Sto} {x : Int} {xs : List Int} {i : Nat} (h : xs[i]? = some x) (hn : ∀ j, j < i → xs[j]? ≠ some x) : gIndex S (.d (.list (xs.map PyData.int))) [.d (.int x)] = some (.d (.int i), S) := by
  simp [gIndex, flatD, indexD_at h hn]
/-- a comprehension with no test; the store may change, what it gives is told -/
theorem compM_map {g : MG} {m : ME} {σ : Env} (I : Sto → Prop) (f : D → D) : ∀ (ds : List D) (S : Sto) (acc : List D), I S → acc.length + ds.length ≤ 16777216 →
    (∀ d S, d ∈ ds → I S → ∃ σ1 S', g (.d d) σ = some σ1 ∧ m σ1 S = some (.d (f d), S') ∧ I S') →
    ∃ S', compM g mYes m ds σ S acc = some (acc ++ ds.map f, S') ∧ I S'
  | [], S, acc, h0, _, _ => ⟨S, by simp, h0⟩
  | d :: ds, S, acc, h0, hl, hs => by
    obtain ⟨σ1, S1, h1, h2, h3⟩ := hs d S (by simp) h0
    simp only [List.length_cons] at hl
    obtain ⟨S', h4, h5⟩ := compM_map I f ds S1 (acc ++ [f d]) h3 (by simp; omega) fun d S hd hI => hs d S (by simp [hd]) hI
    refine ⟨S', ?_, h5⟩
    have hf : fits (acc.length + 1) = true := decide_eq_true (by omega)
    simp [h1, h2, hf, h4]
/-- a comprehension with no test that leaves the store -/
theorem compM_map0 {g : MG} {m : ME} {σ : Env} {S : Sto} (f : D → D) (ds : List D) (hl : ds.length ≤ 16777216) (hs : ∀ d ∈ ds, ∃ σ1, g (.d d) σ = some σ1 ∧ m σ1 S = some (.d (f d), S)) :
    compM g mYes m ds σ S [] = some (ds.map f, S) := by
  obtain ⟨S', h1, h2⟩ := compM_map (g := g) (m := m) (σ := σ) (fun T => T = S) f ds S [] rfl (by simpa using hl) fun d T hd e => by
    subst e
    obtain ⟨σ1, h1, h2⟩ := hs d hd
    exact ⟨σ1, T, h1, h2, rfl⟩
  subst h2
  simpa using h1
theorem rangeD_eq (n : Nat) : ∀ lo : Int, rangeD lo n = (List.range n).map fun (i : Nat) => PyData.int (lo + (i : Int)) := by
  induction n with
  | zero => intro lo; rfl
  | succ n ih =>
    intro lo
    rw [List.range_succ_eq_map]
    simp only [rangeD, ih, List.map_cons, List.map_map]
    congr 1
    · simp
    · apply List.map_congr_left
      intro i _
      simp
      omega
end DL
namespace DL
open PySem PySem.Spec PyProof.Rows L2
/-- the same, over what a plain list becomes -/
theorem compM_mapE {α : Type} {g : MG} {m : ME} {σ : DL.Env} (I : Sto → Prop) (e f : α → D) : ∀ (xs : List α) (S : Sto) (acc : List D), I S → acc.length + xs.length ≤ 16777216 →
    (∀ x S, x ∈ xs → I S → ∃ σ1 S', g (.d (e x)) σ = some σ1 ∧ m σ1 S = some (.d (f x), S') ∧ I S') →
    ∃ S', compM g mYes m (xs.map e) σ S acc = some (acc ++ xs.map f, S') ∧ I S'
  | [], S, acc, h0, _, _ => ⟨S, by simp, h0⟩
  | d :: ds, S, acc, h0, hl, hs => by
    obtain ⟨σ1, S1, h1, h2, h3⟩ := hs d S (by simp) h0
    simp only [List.length_cons] at hl
    obtain ⟨S', h4, h5⟩ := compM_mapE I e f ds S1 (acc ++ [f d]) h3 (by simp; omega) fun d S hd hI => hs d S (by simp [hd]) hI
    refine ⟨S', ?_, h5⟩
    have hf : fits (acc.length + 1) = true := decide_eq_true (by omega)
    simp [h1, h2, hf, h4]
theorem compM_mapE0 {α : Type} {g : MG} {m : ME} {σ : DL.Env} {S : Sto} (e f : α → D) (xs : List α) (hl : xs.length ≤ 16777216) (hs : ∀ x ∈ xs, ∃ σ1, g (.d (e x)) σ = some σ1 ∧ m σ1 S = some (.d (f x), S)) :
    compM g mYes m (xs.map e) σ S [] = some (xs.map f, S) := by
  obtain ⟨S', h1, h2⟩ := compM_mapE (g := g) (m := m) (σ := σ) (fun T => T = S) e f xs S [] rfl (by simpa using hl) fun d T hd e => by
    subst e
    obtain ⟨σ1, h1, h2⟩ := hs d hd
    exact ⟨σ1, T, h1, h2, rfl⟩
  subst h2
  simpa using h1
theorem cutD_from1 (ds : List D) : cutD ds (some 1) none = ds.tail := by
  cases ds with
  | nil => rfl
  | cons d ds => simp [cutD, HT.sIx]
theorem zipD_map {α β : Type} (e : α → D) (f : β → D) : ∀ (xs : List α) (ys : List β), zipD (xs.map e) (ys.map f) = (xs.zip ys).map fun p => .tuple [e p.1, f p.2]
  | [], _ => by simp [zipD]
  | _ :: _, [] => by simp [zipD]
  | x :: xs, y :: ys => by simp [zipD, zipD_map e f xs ys]
theorem all_map_true {α : Type} (xs : List α) (f : α → D) (h : ∀ x ∈ xs, f x = .bool true) (S : Sto) : vAll S (.d (.list (xs.map f))) = some (.d (.bool true)) := by
  obtain ⟨bs, h1, h2⟩ := all_true (xs.map f) fun y hy => by
    obtain ⟨x, hx, rfl⟩ := List.mem_map.mp hy
    exact h x hx
  simp only [vAll, asL_d, Option.bind_some, h1, Option.map_some, h2]
theorem any_map {α : Type} (xs : List α) (p : α → Bool) (S : Sto) : vAny S (.d (.list (xs.map fun x => .bool (p x)))) = some (.d (.bool (xs.any p))) := by
  have : boolsOf (xs.map fun x => .bool (p x)) = some (xs.map p) := by
    have := boolsOf_map (xs.map p)
    rwa [List.map_map] at this
  simp only [vAny, asL_d, Option.bind_some, this, Option.map_some, List.any_map]
  rfl
theorem all_map {α : Type} (xs : List α) (p : α → Bool) (S : Sto) : vAll S (.d (.list (xs.map fun x => .bool (p x)))) = some (.d (.bool (xs.all p))) := by
  have : boolsOf (xs.map fun x => .bool (p x)) = some (xs.map p) := by
    have := boolsOf_map (xs.map p)
    rwa [List.map_map] at this
  simp only [vAll, asL_d, Option.bind_some, this, Option.map_some, List.all_map]
  rfl
theorem set_same {α : Type} {S : List α} {n : Nat} {o : α} (h : S[n]? = some o) : S.set n o = S := by
  obtain ⟨hl, e⟩ := List.getElem?_eq_some_iff.mp h
  subst e
  simp
/-- n different numbers under N -/
theorem nodup_le : ∀ (N : Nat) (l : List Nat), l.Nodup → (∀ x ∈ l, x < N) → l.length ≤ N
  | 0, [], _, _ => Nat.le_refl _
  | 0, x :: _, _, h => absurd (h x (by simp)) (by omega)
  | N + 1, l, hd, h => by
    have h1 := nodup_le N (l.erase N) (hd.erase N) fun x hx => by
      have := (List.Nodup.mem_erase_iff hd).mp hx
      have := h x this.2
      omega
    rw [List.length_erase] at h1
    split at h1 <;> omega
end DL
namespace DL
open PySem PySem.Spec PyProof.Rows L2
theorem eqvAll_nums : ∀ xs ys : List Int, PyData.eqvAll (xs.map PyData.int) (ys.map PyData.int) = decide (xs = ys)
  | [], [] => by simp [PyData.eqvAll]
  | [], _ :: _ => by simp [PyData.eqvAll]
  | _ :: _, [] => by simp [PyData.eqvAll]
  | x :: xs, y :: ys => by
    simp only [List.map_cons, PyData.eqvAll, eqv_int, eqvAll_nums xs ys, List.cons.injEq, Bool.decide_and]
theorem eqv_list_nums (xs ys : List Int) : PyData.eqv (.list (xs.map PyData.int)) (.list (ys.map PyData.int)) = decide (xs = ys) := by
  simp only [PyData.eqv]; exact eqvAll_nums xs ys
theorem eqv_tuple_nums (xs ys : List Int) : PyData.eqv (.tuple (xs.map PyData.int)) (.tuple (ys.map PyData.int)) = decide (xs = ys) := by
  simp only [PyData.eqv]; exact eqvAll_nums xs ys
theorem lay_nums : ∀ xs : List Int, PyData.canLayAll0 (xs.map PyData.int) = true
  | [] => by simp [PyData.canLayAll0]
  | x :: xs => by simp [PyData.canLayAll0, PyData.canLay0, lay_nums xs]
theorem depth_nums : ∀ xs : List Int, PyData.depthAll (xs.map PyData.int) = 0
  | [] => by simp [PyData.depthAll]
  | x :: xs => by simp [PyData.depthAll, PyData.depth, depth_nums xs]
theorem shaped_list_nums (xs : List Int) : SeqAt.shaped (.list (xs.map PyData.int)) = true := by
  simp [SeqAt.shaped, PyData.canLay0, PyData.depth, lay_nums, depth_nums]
theorem shaped_tuple_nums (xs : List Int) : SeqAt.shaped (.tuple (xs.map PyData.int)) = true := by
  simp [SeqAt.shaped, PyData.canLay0, PyData.depth, lay_nums, depth_nums]
theorem eq_list_nums (S : Sto) (xs ys : List Int) : vEq S (.d (.list (xs.map PyData.int))) (.d (.list (ys.map PyData.int))) = some (.d (.bool (decide (xs = ys)))) := by
  simp [vEq, strs2, asD, shaped_list_nums, eqv_list_nums]
theorem ne_list_nums (S : Sto) (xs ys : List Int) : vNe S (.d (.list (xs.map PyData.int))) (.d (.list (ys.map PyData.int))) = some (.d (.bool (!decide (xs = ys)))) := by
  simp [vNe, strs2, asD, shaped_list_nums, eqv_list_nums]
theorem eq_tuple_nums (S : Sto) (xs ys : List Int) : vEq S (.d (.tuple (xs.map PyData.int))) (.d (.tuple (ys.map PyData.int))) = some (.d (.bool (decide (xs = ys)))) := by
  simp [vEq, strs2, asD, shaped_tuple_nums, eqv_tuple_nums]
theorem ne_tuple_nums (S : Sto) (xs ys : List Int) : vNe S (.d (.tuple (xs.map PyData.int))) (.d (.tuple (ys.map PyData.int))) = some (.d (.bool (!decide (xs = ys)))) := by
  simp [vNe, strs2, asD, shaped_tuple_nums, eqv_tuple_nums]
theorem eq_bool (S : Sto) (a b : Bool) : vEq S (.d (.bool a)) (.d (.bool b)) = some (.d (.bool (decide (a = b)))) := by
  cases a <;> cases b <;> rfl
theorem ne_bool (S : Sto) (a b : Bool) : vNe S (.d (.bool a)) (.d (.bool b)) = some (.d (.bool (!decide (a = b)))) := by
  cases a <;> cases b <;> rfl
theorem ne_str_same (S : Sto) (x : Str) : vNe S (.d (.str x)) (.d (.str x)) = some (.d (.bool false)) := by
  have h : (x == x) = true := by first | exact beq_self_eq_true x | simp
  simp [vNe, strs2, h]
theorem eq_str_same (S : Sto) (x : Str) : vEq S (.d (.str x)) (.d (.str x)) = some (.d (.bool true)) := by
  have h : (x == x) = true := by first | exact beq_self_eq_true x | simp
  simp [vEq, strs2, h]
theorem show_bool (b : Bool) : showOk (.bool b) = true := by cases b <;> decide +kernel
theorem show_none : showOk .none = true := by decide +kernel
theorem repr_d {S : Sto} {d : D} (h : showOk d = true) : vRepr S (.d d) = some (.d (.str d.shown)) := by simp [vRepr, asD, h]
end DL
namespace DL
open PySem PySem.Spec PyProof.Rows L2
/-- a comprehension with a test, over what a plain list becomes; the store stays -/
theorem compM_filterE {α : Type} {g : MG} {t : MT} {m : ME} {σ : DL.Env} {S : Sto} (e f : α → D) (p : α → Bool) : ∀ (xs : List α) (acc : List D), acc.length + xs.length ≤ 16777216 →
    (∀ x ∈ xs, ∃ σ1, g (.d (e x)) σ = some σ1 ∧ t σ1 S = some (p x, S) ∧ (p x = true → m σ1 S = some (.d (f x), S))) →
    compM g t m (xs.map e) σ S acc = some (acc ++ (xs.filter p).map f, S)
  | [], acc, _, _ => by simp
  | d :: ds, acc, hl, hs => by
    obtain ⟨σ1, h1, h2, h3⟩ := hs d (by simp)
    simp only [List.length_cons] at hl
    cases hp : p d with
    | true =>
      have hf : fits (acc.length + 1) = true := decide_eq_true (by omega)
      have ih := compM_filterE e f p ds (acc ++ [f d]) (by simp; omega) fun d hd => hs d (by simp [hd])
      simp [h1, h2, hp, h3 hp, hf, ih]
    | false =>
      have ih := compM_filterE e f p ds acc (by omega) fun d hd => hs d (by simp [hd])
      simp [h1, h2, hp, ih]
/-- numbers as data -/
abbrev nn (xs : List Nat) : List D := xs.map fun (n : Nat) => PyData.int (n : Int)
theorem nn_eq (xs : List Nat) : nn xs = (xs.map fun (n : Nat) => (n : Int)).map PyData.int := by simp [nn]
theorem mem_cast (i : Nat) (xs : List Nat) : (i : Int) ∈ (xs.map fun (n : Nat) => (n : Int)) ↔ i ∈ xs := by
  rw [List.mem_map]
  exact ⟨fun ⟨a, h, e⟩ => by
    have : a = i := by omega
    exact this ▸ h, fun h => ⟨i, h, rfl⟩⟩
theorem in_nn (S : Sto) (i : Nat) (xs : List Nat) : vIn S (.d (.int (i : Int))) (.d (.list (nn xs))) = some (.d (.bool (decide (i ∈ xs)))) := by
  rw [nn_eq, in_ints]
  congr 3
  exact decide_eq_decide.mpr (mem_cast i xs)
theorem notIn_nn (S : Sto) (i : Nat) (xs : List Nat) : vNotIn S (.d (.int (i : Int))) (.d (.list (nn xs))) = some (.d (.bool (!decide (i ∈ xs)))) := by
  rw [nn_eq, notIn_ints]
  congr 4
  exact decide_eq_decide.mpr (mem_cast i xs)
theorem intsOf_nn (xs : List Nat) : intsOf (nn xs) = some (xs.map fun (n : Nat) => (n : Int)) := by
  rw [nn_eq]; exact intsOf_map _
theorem rangeD0 (n : Nat) : rangeD 0 n = nn (List.range n) := by
  rw [rangeD_eq]
  apply List.map_congr_left
  intro i _
  simp
theorem look_key {S : Sto} {n : Nat} {kvs : List (List Key × D)} (h : S[n]? = some (.dT kvs)) (s c : Int) : lookD S (.loc n) (.d (.tuple [.int s, .int c])) = some (valD kvs [.inl s, .inl c]) := by
  simp [lookD, h, keyT, keysD, keyD]
end DL

set_option Elab.async false
set_option linter.all false
set_option maxRecDepth 100000
set_option autoImplicit false
noncomputable section
/-! The data layer: sorted over lists, tuples, dicts; rows among which () stands; t < u; a dict written in the text. -/
namespace DL
open PySem PySem.Spec PyProof.Rows L2
/-! ### the kind of keys where some row is () -/
section
open PySem.W PySem.SeqAt
variable {prog : Program} {w : World} {A : Around} {E : Value → Shared → Prop} {s : Shared}
theorem oneLt_tup {xs ys : List PyData} {a b : Value} {as bs : List Addr} {Q : Bool → Shared → Prop} (ra : Reads s.heap a (.tuple xs) as) (rb : Reads s.heap b (.tuple ys) bs) (hal : alikeAll xs ys = true)
    (hu : A.units + min (PyData.depth (.tuple xs)) (PyData.depth (.tuple ys)) < cLine) (hq : Q (dataLt (.tuple xs) (.tuple ys)) s) : wpAny (model prog w) A (oneLt' true a b) Q E s := by
  cases ra with
  | @tuple l o vs n _ as₁ h1 h2 h3 h4 =>
    cases rb with
    | @tuple l' o' vs' n' _ bs₁ k1 k2 k3 k4 =>
      have n1 : vs.size = xs.length := by simpa using ReadsAll.length _ _ _ h4
      have n2 : vs'.size = ys.length := by simpa using ReadsAll.length _ _ _ k4
      rw [dataLt_tuple, ← firstLt_toks xs ys hal, ← n1, ← n2] at hq
      rw [oneLt'_eq]
      simp only [if_true]
      refine wpAny_bind (wpAny_cRoomFor (room_here hu) ?_)
      obtain ⟨oc, od, odat, osl⟩ := o
      obtain ⟨oc', od', odat', osl'⟩ := o'
      simp only at h2 h3 k2 k3
      subst h2 h3 k2 k3
      refine wpAny_bind (wpAny_callSpecialIfBound?_slot (T := "tuple") ⟨_, h1, rfl⟩ F.slot_tuple_lt ?_)
      refine call_meets F.slot_tuple_lt ⟨_, h1, rfl⟩ F.entry_tuple_lt (F.args_tuple_lt_2 _ _) (tuple_ltAt l l' vs vs' n n' od od' osl osl' (pairEq xs ys) (fun j => dataLt (xs.getD j .none) (ys.getD j .none))) ?_
      refine ⟨h1, k1, fun j j1 j2 => ?_, fun j j1 j2 hj => ?_, ?_⟩
      · have := eqAt_alikeAll xs ys A.in1 s vs.toList vs'.toList _ _ h4 k4 hal (room_in hu) j (by simpa using j1) (by simpa using j2)
        simpa using this
      · have := rcLt_alikeAll xs ys A.in1 s vs.toList vs'.toList _ _ h4 k4 hal (room_in hu) j (by simpa using j1) (by simpa using j2) hj
        simpa using this
      · exact wpAny_truthy_bool hq

/-- the first items, told as they are -/
theorem firsts_go {M : Model} : ∀ (vs : List Value) (ds : List D) {Q : List (Option Value) → Shared → Prop}, EachIs (fun v d => ∃ as, Reads s.heap v d as) vs ds → (∀ d ∈ ds, ∃ xs, d = .tuple xs) →
    (∀ fs : List (Option Value), fs.map Option.isSome = ds.map (fun d => match d with | .tuple (_ :: _) => true | _ => false) → Q fs s) → wpAny M A (vs.mapM firstOfTuple') Q E s
  | [], [], Q, _, _, h => by rw [List.mapM_nil]; exact wpAny_pure (h [] rfl)
  | v :: vs, d :: ds, Q, .cons ⟨as, r⟩ t, ht, h => by
    obtain ⟨xs, rfl⟩ := ht d (List.mem_cons_self ..)
    cases r with
    | @tuple a o its n _ _ ho hc hd hr =>
      rw [List.mapM_cons]
      refine wpAny_bind ?_
      rw [kas_first_eq]
      refine wpAny_bind (Looks.here (show Looks M s.heap (typeOf (.ref a)) o.cls from (Looks.ld ho).andThen .now) ?_)
      rw [hc, if_neg (by first | decide | simp)]
      refine wpAny_bind (listItems_at ho hd (wpAny_pure ?_))
      refine wpAny_bind (firsts_go vs ds (Q := fun bs s' => wpAny M A (pure (its[0]? :: bs)) Q E s') t (fun d hd => ht d (List.mem_cons_of_mem _ hd)) fun fs hf => wpAny_pure (h _ ?_))
      rw [List.map_cons, List.map_cons, hf]
      congr 1
      have hl := ReadsAll.length _ _ _ hr
      rw [← Array.getElem?_toList]
      cases xs with
      | nil =>
        have : its.toList = [] := List.eq_nil_of_length_eq_zero (by simpa using hl)
        rw [this]; rfl
      | cons x xs =>
        cases q : its.toList with
        | nil => rw [q] at hl; simp at hl
        | cons y ys => rfl
theorem sortsAt_rows {vs : List Value} {ds : List D} (e : EachIs (fun v d => ∃ as, Reads s.heap v d as) vs ds) (hal : AllAlike ds) (ht : ∀ d ∈ ds, ∃ xs, d = .tuple xs) (hn : PyData.tuple [] ∈ ds) (hu : ∀ d, d ∈ ds → A.units + d.depth < cLine) : SortsAt prog w A s (dataKind s.heap ds) vs := by
  have room : ∀ {d d' : PyData}, d ∈ ds → A.units + min d.depth d'.depth < cLine := fun {d d'} hd => Nat.lt_of_le_of_lt (Nat.add_le_add_left (Nat.min_le_left _ _) _) (hu d hd)
  have hlt : ∀ f : Bool, H.LtAt prog w A s (dataKind s.heap ds) (if f = true then oneType' else general') := fun f E x y a b Q ha hb hq => by
    obtain ⟨d, as, hd, ra, rfl⟩ := dataKind_inv ha
    obtain ⟨d', as', hd', rb, rfl⟩ := dataKind_inv hb
    have hdd := hal d hd d' hd'
    have hroom := room (d' := d') hd
    obtain ⟨xs, rfl⟩ := ht d hd
    obtain ⟨ys, rfl⟩ := ht d' hd'
    cases f with
    | true => exact oneLt_tup ra rb (by simpa [alike] using hdd) hroom hq
    | false => exact oneLt_alike (f := false) (fun z => by cases z) ra rb hdd (by intro z; cases z) hroom hq
  refine ⟨fun v hv => ?_, ?_⟩
  · obtain ⟨d, hd, as, r⟩ := e.left v hv
    exact ⟨_, dataKind_some hal hd r⟩
  · refine ⟨_, hlt (match ds with | .tuple [] :: _ => true | _ => false), fun h2 E Q hq => ?_⟩
    rw [kat_kind_eq, List.mapM_toArray, map_eq_pure_bind]
    refine wpAny_bind (wpAny_bind (firsts_go vs ds e ht fun fs hf => wpAny_pure ?_))
    have hlen : fs.length = ds.length := by simpa using congrArg List.length hf
    have hnot : ¬ (fs.toArray.all fun x => x.isSome) = true := fun z => by
      have z : (fs.all fun x => x.isSome) = true := by simpa using z
      have z2 : (fs.map Option.isSome).all id = true := by simpa [List.all_map, Function.comp_def] using z
      rw [hf] at z2
      have := List.all_eq_true.mp z2 false (List.mem_map.mpr ⟨_, hn, rfl⟩)
      cases this
    rw [if_neg hnot]
    cases ds with
    | nil => simp at hn
    | cons d₀ ds₀ =>
      cases fs with
      | nil => simp at hlen
      | cons f₀ fs₀ =>
        obtain ⟨xs, rfl⟩ := ht d₀ (List.mem_cons_self ..)
        have hf0 : f₀.isSome = (match PyData.tuple xs with | PyData.tuple (_ :: _) => true | _ => false) := by
          simp only [List.map_cons, List.cons.injEq] at hf
          exact hf.1
        cases xs with
        | cons x xs =>
          have h1 : (((f₀ :: fs₀).toArray)[0]?.bind id).isSome = true := by simpa using hf0
          rw [if_pos h1]
          exact wpAny_pure hq
        | nil =>
          have h1 : ¬ (((f₀ :: fs₀).toArray)[0]?.bind id).isSome = true := by simp at hf0 ⊢; exact hf0
          rw [if_neg h1, oneTypeOnly'_eq, List.mapM_toArray, map_eq_pure_bind]
          have hT : ∀ v ∈ vs, Looks (model prog w) s.heap (typeOf v) (Value.type "tuple") := fun v hv => by
            obtain ⟨d, hd, as, r⟩ := e.left v hv
            obtain ⟨ys, rfl⟩ := ht d hd
            exact looks_reads r
          refine wpAny_bind (wpAny_bind (wpAny_bind (kas_mapM (r := Value.type "tuple") _ (fun v hv Q' hq => (hT v hv).here hq) (wpAny_pure ?_))))
          have hall : ((List.map (fun _ => Value.type "tuple") vs).toArray.all fun x => x == Value.type "tuple") = true := by
            simp only [List.all_toArray, List.all_map, List.all_eq_true]
            intro _ _
            rfl
          have h0 : (List.map (fun _ => Value.type "tuple") vs).toArray[0]? = some (Value.type "tuple") := by
            cases vs with
            | nil => simp at h2
            | cons v vs => simp
          rw [h0]
          simp only [hall, if_true]
          exact wpAny_pure (wpAny_pure hq)
end
/-! ### sorted -/
def sortOk (ds : List D) : Bool := says (PySem.W.AllAlike ds ∧ (PySem.W.Sortable ds ∨ (∀ d ∈ ds, ∃ xs, d = .tuple xs) ∧ PyData.tuple [] ∈ ds) ∧ ∀ d ∈ ds, d.depth ≤ 64)
def sortD (ds : List D) : List D := ds.mergeSort (PySem.W.dataLe false id)
def vSorted (S : Sto) (x : W) : Option W := (match keysOf x with
  | some ds => some ds
  | none => seqOf S x).bind fun ds => if sortOk ds = true then some (.d (.list (sortD ds))) else none
section
variable {X : Cx}
theorem each_of {ρ : Rho} {H : Hp} : ∀ {ds : List D} {vs : List V} {us : List Value}, RepL ρ H ds vs → Vals vs us → PySem.W.EachIs (fun (v : Value) (d : D) => ∃ u : V, RelV u v ∧ Rep ρ H d u) us ds
  | [], _, _, r, v => by cases r; cases v; exact .nil
  | d :: ds, _, _, r, v => by
    cases r with
    | cons r1 r2 =>
      cases v with
      | cons v1 v2 => exact .cons ⟨_, v1, r1⟩ (each_of r2 v2)
theorem of_each {ρ : Rho} {H : Hp} : ∀ {ds : List D} {us : List Value}, PySem.W.EachIs (fun (v : Value) (d : D) => ∃ u : V, RelV u v ∧ Rep ρ H d u) us ds → ∃ vs, Vals vs us ∧ RepL ρ H ds vs
  | _, _, .nil => ⟨[], .nil, .nil⟩
  | _, _, .cons ⟨u, h1, h2⟩ t => by
    obtain ⟨vs, h3, h4⟩ := of_each t
    exact ⟨u :: vs, .cons h1 h3, .cons h2 h4⟩
theorem sortsAt_of {prog : Program} {w : World} {A : Around} {s : Shared} {vs : List Value} {ds : List D} (e : PySem.W.EachIs (fun v d => ∃ as, Reads s.heap v d as) vs ds) (hf : sortOk ds = true) (hu : A.units + 64 < cLine) : PySem.W.SortsAt prog w A s (PySem.W.dataKind s.heap ds) vs := by
  obtain ⟨f1, f2, f3⟩ := says_of hf
  rcases f2 with f2 | ⟨f2, f4⟩
  · exact PySem.W.SortsAt.data e f1 f2 fun d hd => by have := f3 d hd; omega
  · exact sortsAt_rows e f1 f2 f4 fun d hd => by have := f3 d hd; omega
theorem each_len {α β : Type} {R : α → β → Prop} : ∀ {as : List α} {bs : List β}, PySem.W.EachIs R as bs → as.length = bs.length
  | _, _, .nil => rfl
  | _, _, .cons _ t => by simp [each_len t]
/-- what sorted does with what it was handed, once that is collected -/
theorem sorted_go (hu : X.A.units + 70 < cLine) {pins : List (Addr × Obj)} {s : Shared} {σ : L2.St} {H : Hp} {u : Value} {ρ : Rho} {S : Sto} {ds : List D} {Q : VK} (I : Inv X pins σ H s) (hs : SRel ρ H S) (hf : sortOk ds = true) (hz : ds.length ≤ sizeLine)
    (coll : ∀ (R : List Value → Shared → Prop) (E : Value → Shared → Prop), (∀ (h' : Heap) (tk : Nat) (acc : List Value), (∀ b o, s.heap.get? b = some o → h'.get? b = some o) → PySem.W.EachIs (fun (v : Value) (d : D) => ∃ u : V, RelV u v ∧ Rep ρ H d u) acc ds → R acc { s with heap := h', toks := tk }) → wpAny (model X.prog X.w) X.A.in1 (collect u) R E s)
    (q : ∀ ρ' z H', Ext ρ H ρ' H' → SRel ρ' H' S → RelW X.K ρ' H' (.d (.list (sortD ds))) z → Q z H') :
    wpAny (model X.prog X.w) X.A (call (.builtin "sorted") [u]) (EP X pins σ Q) X.xe s := by
  refine Calls.call_function_entry PyProof.Rows.kind_sorted PyProof.Rows.plain_sorted PyProof.Rows.entry_sorted (PyProof.Rows.args_sorted1 _) ?_
  unfold Builtin.«sorted»
  refine wpAny_bind (m := checkCount "sorted" 1 1 _) (wpAny_pure ?_)
  refine wpAny_bind (coll _ _ fun h' tk acc hk e => ?_)
  have hal : acc.length = ds.length := each_len e
  have I1 : Inv X pins σ H { s with heap := h', toks := tk } := I.kept hk
  refine wpAny_bind (wpAny_newList ?_ (by rw [hal]; exact hz))
  have hoL : (h'.push (seqObj "list" acc.toArray 0)).get? h'.objs.size = some (seqObj "list" acc.toArray 0) := Heap.get?_push_size _ rfl
  show wpAny _ _ _ _ _ { s with heap := h'.push (seqObj "list" acc.toArray 0), toks := tk }
  have er : PySem.W.EachIs (fun (v : Value) (d : D) => ∃ as, Reads h' v d as) acc ds := e.mono fun v d ⟨u, g1, g2⟩ => Dp.reads I1 d u v (Rep.dp g2) g1
  have er2 : PySem.W.EachIs (fun (v : Value) (d : D) => ∃ as, Reads (PySem.W.sortingHeap (h'.push (seqObj "list" acc.toArray 0)) h'.objs.size acc) v d as) acc ds := er.mono fun v d ⟨as, r⟩ => ⟨as, PyProof.Rows.Reads.keeps (fun b o eb => PySem.W.sortingHeap_old (Nat.ne_of_lt (Heap.lt_size eb)) (Heap.get?_push_of_some _ eb)) r⟩
  have hso := sortsAt_of (prog := X.prog) (w := X.w) (A := X.A.in1.in1) (s := { s with heap := PySem.W.sortingHeap (h'.push (seqObj "list" acc.toArray 0)) h'.objs.size acc, toks := tk }) er2 hf (by show X.A.units + 1 + 1 + 64 < cLine; omega)
  obtain ⟨f1, _, _⟩ := says_of hf
  have hm : ds.map id = ds := List.map_id ds
  have hv := PySem.W.sortVals_data (R := fun (v : Value) (d : D) => ∃ u : V, RelV u v ∧ Rep ρ H d u) (enc := id) false e er2 (by rw [hm]; exact f1)
  rw [hm] at hv
  obtain ⟨us, g1, g2⟩ := of_each hv
  have hul : us.length = ds.length := by
    rw [← g2.length]
    exact List.length_mergeSort _
  refine wpAny_bind (wpAny_holding (wpAny_call_entry PyProof.Rows.slot_list_sort ⟨_, hoL, rfl⟩ PyProof.Rows.entry_list_sort
    (PySem.W.list_sort_vals (κ := PySem.W.dataKind (PySem.W.sortingHeap (h'.push (seqObj "list" acc.toArray 0)) h'.objs.size acc) ds) (s := { s with heap := h'.push (seqObj "list" acc.toArray 0), toks := tk }) hoL hso (by rw [hal]; exact hz) ⟨_, rfl, ?_⟩) (PyProof.Rows.args_list_sort _)))
  obtain ⟨e', he'⟩ := PyProof.Rows.sortedHeap_at (vs := acc) (out := (PySem.W.sortVals (PySem.W.dataKind (PySem.W.sortingHeap (h'.push (seqObj "list" acc.toArray 0)) h'.objs.size acc) ds) false acc acc).toArray) hoL
  have hp : H h'.objs.size = none := I1.hok.fresh (Nat.le_refl _)
  refine wpAny_pure ⟨_, rfl, .ref h'.objs.size, upd H h'.objs.size (.lst us), I1.laid (t' := tk) (fun b u eb => ?_) (Nat.le_refl _)
    (show ObjOk X.prog X.w _ _ _ (.lst us) from ⟨by rw [hul]; exact hz, _, e', g1, he'⟩), rfl, q ρ _ _ (Ext.new hp) (hs.new hp) (.lst upd_same (hs.fresh hp) (g2.ext (Ext.new hp)))⟩
  have hb : b < h'.objs.size := Heap.lt_size eb
  rw [PyProof.Rows.sortedHeap_old (Nat.ne_of_lt hb) (by rw [size_push']; exact Nat.lt_succ_of_lt hb)]
  exact Heap.get?_push_of_some _ eb
theorem each_at {α β : Type} {R : α → β → Prop} : ∀ {as : List α} {bs : List β}, as.length = bs.length → (∀ (i : Nat) (a : α) (b : β), as[i]? = some a → bs[i]? = some b → R a b) → PySem.W.EachIs R as bs
  | [], [], _, _ => .nil
  | a :: as, b :: bs, hl, h => .cons (h 0 a b rfl rfl) (each_at (by simpa using hl) fun i x y hx hy => h (i + 1) x y (by simpa using hx) (by simpa using hy))
  | [], _ :: _, hl, _ => by simp at hl
  | _ :: _, [], hl, _ => by simp at hl
theorem RepKV.atV {κ : Type} {ρ : Rho} {H : Hp} {kvs : List (κ × D)} {us : List (κ × V)} (h : RepKV ρ H kvs us) : kvs.map (·.1) = us.map (·.1) := by
  induction h with
  | nil => rfl
  | cons r _ ih => simp [ih]
theorem tup_fr {ρ : Rho} {H : Hp} {S : Sto} (hs : SRel ρ H S) {a : Addr} {xs : List V} (h : H a = some (.tup xs)) : ρ.Fr a := by
  refine ⟨fun z => ?_, fun z => ?_⟩
  · obtain ⟨i, q⟩ := List.mem_iff_getElem?.mp z
    obtain ⟨o, _, h2⟩ := hs.obj i a q
    cases o with
    | lst _ => obtain ⟨_, h3, _⟩ := h2; rw [h] at h3; cases h3
    | dK _ => obtain ⟨_, h3, _⟩ := h2; rw [h] at h3; cases h3
    | dT _ => obtain ⟨_, h3, _⟩ := h2; rw [h] at h3; cases h3
    | dead => exact h2
  · obtain ⟨⟨ys, h3⟩, _⟩ := hs.blk a z
    rw [h] at h3; cases h3
theorem paired_at {α β : Type} {R : α → β → Prop} : ∀ {as : List α} {bs : List β}, Paired R as bs → ∀ (i : Nat) (a : α) (b : β), as[i]? = some a → bs[i]? = some b → R a b
  | _, _, .nil, i, a, b, h, _ => by simp at h
  | _, _, .cons h t, i, a, b, h1, h2 => by
    cases i with
    | zero => simp at h1 h2; subst h1 h2; exact h
    | succ i => exact paired_at t i a b (by simpa using h1) (by simpa using h2)
theorem c_sorted (hc : X.calm = true) (hu : X.A.units + 70 < cLine) : CallD X (.builtin "sorted") (pure1 vSorted) := call1_of fun pins s σ H v u Q ρ S x w I r hs rx hg q => by
  unfold vSorted at hg
  obtain ⟨ds, h1, hg⟩ := Option.bind_eq_some_iff.mp hg
  obtain ⟨hf, hg⟩ := some_if hg
  cases hg
  split at h1
  · rename_i ds' hk
    cases h1
    unfold keysOf at hk
    split at hk
    · rename_i kvs
      cases hk
      obtain ⟨a, us, rfl, fr, hd, _, kv⟩ := rx
      obtain rfl : u = Value.ref a := r
      obtain ⟨z, lo, vs, rel, dd⟩ := dk_rd I.hok hd
      obtain ⟨es, ep, hraw, hsz, hkey⟩ := dd.raw
      have hl : kvs.length = vs.length := by rw [kv.length]; exact Paired.length rel
      refine sorted_go hu I hs hf (by rw [List.length_map, kv.length]; exact z) (fun R E k => ?_) fun ρ' z' H' e1 s1 r1 => q ρ' z' H' e1 s1 r1
      refine PySem.W.kdu_collect (A := X.A.in1) (KdlSrc.rawDict lo) (I.ok.hd hc) hraw (by rw [hsz, ← hl, kv.length]; exact z) fun h' tk acc hkk hacc => k h' tk acc.toList hkk (each_at (by rw [Array.length_toList, hacc.1, List.length_map, hl, hsz]) fun i v d hv hd2 => ?_)
      obtain ⟨hi, rfl⟩ := hacc.2 i v (by rw [← Array.getElem?_toList]; exact hv)
      rw [List.getElem?_map] at hd2
      obtain ⟨kv1, h3, rfl⟩ := Option.map_eq_some_iff.mp hd2
      have hiv : i < vs.length := by omega
      obtain ⟨k0, x0, e4⟩ : ∃ k0 x0, vs[i]? = some (k0, x0) := ⟨vs[i].1, vs[i].2, by simp [hiv]⟩
      obtain ⟨g1, _⟩ := hkey i hi _ _ e4
      have e5 := congrArg (fun l => l[i]?) kv.atV
      have e6 : us.map (·.1) = vs.map (·.1) := rel.keys
      rw [e6] at e5
      simp only [List.getElem?_map, h3, e4, Option.map_some, Option.some.injEq] at e5
      rw [← e5] at g1
      refine ⟨kV kv1.1, ?_, kD_rep _⟩
      rcases keyIs_shape (show keyIs kv1.1 es[i].key = true from g1) with ⟨j, t, ek, ev⟩ | ⟨y, t, ek, ev⟩
      · rw [ek, ev]; exact ⟨t, rfl⟩
      · rw [ek, ev]; exact ⟨t, rfl⟩
    · rename_i kvs
      cases hk
      obtain ⟨a, us, rfl, fr, hd, _, kv⟩ := rx
      obtain rfl : u = Value.ref a := r
      obtain ⟨z, lo, xs, rel, dd⟩ := dt_rd I.hok hd
      obtain ⟨es, ep, hraw, hsz, hkey⟩ := dd.raw
      have hl : us.length = xs.length := Paired.length rel
      refine sorted_go hu I hs hf (by rw [List.length_map, kv.length]; exact z) (fun R E k => ?_) fun ρ' z' H' e1 s1 r1 => q ρ' z' H' e1 s1 r1
      refine PySem.W.kdu_collect (A := X.A.in1) (KdlSrc.rawDict lo) (I.ok.hd hc) hraw (by rw [hsz, ← hl]; exact z) fun h' tk acc hkk hacc => k h' tk acc.toList hkk (each_at (by rw [Array.length_toList, hacc.1, List.length_map, kv.length, hl, hsz]) fun i v d hv hd2 => ?_)
      obtain ⟨hi, rfl⟩ := hacc.2 i v (by rw [← Array.getElem?_toList]; exact hv)
      rw [List.getElem?_map] at hd2
      obtain ⟨kv1, h3, rfl⟩ := Option.map_eq_some_iff.mp hd2
      obtain ⟨y, hy, g1, _, _⟩ := hkey i hi
      have hiu : i < us.length := by rw [hl, ← hsz]; exact hi
      have e4 : us[i]? = some us[i] := by simp [hiu]
      obtain ⟨p1, p2, _⟩ := paired_at rel i _ _ e4 hy
      have e5 := congrArg (fun l => l[i]?) kv.atV
      simp only [List.getElem?_map, h3, e4, Option.map_some, Option.some.injEq] at e5
      rw [← e5] at p2
      exact ⟨.ref y.2.1, g1, .tup p2 (tup_fr hs p2) (kDs_rep _)⟩
    · cases hk
  · obtain ⟨a, vs, rfl, hq, hr⟩ := seqOf_rel hs rx h1
    obtain rfl : u = Value.ref a := r
    rcases hq with hq | hq
    · obtain ⟨its, rv, hl, hz⟩ := I.list hq
      obtain ⟨o, ho, hcl, n, hdt⟩ := hl.isList
      refine sorted_go hu I hs hf (by rw [hr.length]; exact hz) (fun R E k => ?_) fun ρ' z' H' e1 s1 r1 => q ρ' z' H' e1 s1 r1
      refine wpAny_collect_seq a (.inl rfl) ho hcl hdt (fun h' hk => k h' s.toks _ hk ?_) (by rw [List.size_toArray, ← rv.length]; exact hz)
      simpa using each_of hr rv
    · obtain ⟨its, rv, ⟨o, ho, hcl, n, hdt⟩, hz⟩ := I.tuple hq
      refine sorted_go hu I hs hf (by rw [hr.length]; exact hz) (fun R E k => ?_) fun ρ' z' H' e1 s1 r1 => q ρ' z' H' e1 s1 r1
      refine wpAny_collect_seq a (.inr rfl) ho hcl hdt (fun h' hk => k h' s.toks _ hk ?_) (by rw [List.size_toArray, ← rv.length]; exact hz)
      simpa using each_of hr rv
end
/-! ### sorted(set(xs)), xs a list of tuples of ints -/
def nats : D → Option (List Int)
  | .tuple ds => intsOf ds
  | _ => none
def rowsI : List D → Option (List (List Int))
  | [] => some []
  | d :: ds => (nats d).bind fun k => (rowsI ds).map fun ks => k :: ks
def ssOk (ks : List (List Int)) : Bool := says (ks.length < 64 ∧ ∃ (d : Nat) (B : Int), 1 ≤ d ∧ ∀ k ∈ ks, k.length = d ∧ TS.Bd B k)
def insR (x : List Int) : List (List Int) → List (List Int)
  | [] => [x]
  | y :: r => if x = y then y :: r else if x < y then x :: y :: r else y :: insR x r
def ssR (ks : List (List Int)) : List (List Int) := ks.foldr insR []
def rowD (k : List Int) : D := .tuple (k.map PyData.int)
def vSortedSet (S : Sto) (x : W) : Option W := (asL S x).bind fun ds => (rowsI ds).bind fun ks => if ssOk ks = true then some (.d (.list ((ssR ks).map rowD))) else none
theorem rowsI_eq : ∀ {ds : List D} {ks : List (List Int)}, rowsI ds = some ks → ds = ks.map rowD
  | [], _, h => by cases h; rfl
  | d :: ds, _, h => by
    obtain ⟨k, h1, h2⟩ := Option.bind_eq_some_iff.mp h
    rw [Option.map_eq_some_iff] at h2
    obtain ⟨ks, h3, rfl⟩ := h2
    rw [rowsI_eq h3]
    unfold nats at h1
    split at h1
    · rw [intsOf_eq h1]; rfl
    · cases h1
@[simp] theorem rowsI_map : ∀ ks : List (List Int), rowsI (ks.map rowD) = some ks
  | [] => rfl
  | k :: ks => by simp [rowsI, nats, rowD, rowsI_map ks]
theorem mem_insR {x y : List Int} : ∀ {r : List (List Int)}, y ∈ insR x r ↔ y = x ∨ y ∈ r
  | [] => by simp [insR]
  | z :: r => by
    unfold insR
    split
    · rename_i h; subst h; simp
    · split
      · simp
      · simp only [List.mem_cons, mem_insR (r := r)]
        constructor
        · rintro (h | h | h)
          · exact .inr (.inl h)
          · exact .inl h
          · exact .inr (.inr h)
        · rintro (h | h | h)
          · exact .inr (.inl h)
          · exact .inl h
          · exact .inr (.inr h)
theorem mem_ssR {y : List Int} : ∀ {ks : List (List Int)}, y ∈ ssR ks ↔ y ∈ ks
  | [] => by simp [ssR]
  | k :: ks => by
    show y ∈ insR k (ssR ks) ↔ _
    rw [mem_insR, mem_ssR]; simp
theorem ints_lt_tri : ∀ (x y : List Int), x < y ∨ x = y ∨ y < x
  | [], [] => .inr (.inl rfl)
  | [], _ :: _ => .inl (List.nil_lt_cons _ _)
  | _ :: _, [] => .inr (.inr (List.nil_lt_cons _ _))
  | a :: x, b :: y => by
    rcases Int.lt_trichotomy a b with h | h | h
    · exact .inl (List.cons_lt_cons_iff.mpr (.inl h))
    · subst h
      rcases ints_lt_tri x y with h | h | h
      · exact .inl (List.cons_lt_cons_iff.mpr (.inr ⟨rfl, h⟩))
      · exact .inr (.inl (by rw [h]))
      · exact .inr (.inr (List.cons_lt_cons_iff.mpr (.inr ⟨rfl, h⟩)))
    · exact .inr (.inr (List.cons_lt_cons_iff.mpr (.inl h)))
theorem ins_sorted {x : List Int} : ∀ {r : List (List Int)}, r.Pairwise (· < ·) → (insR x r).Pairwise (· < ·)
  | [], _ => by simp [insR]
  | y :: r, h => by
    unfold insR
    split
    · exact h
    · rename_i hne
      split
      · rename_i hlt
        refine List.pairwise_cons.mpr ⟨fun z hz => ?_, h⟩
        rcases List.mem_cons.mp hz with rfl | hz
        · exact hlt
        · exact List.lt_trans hlt ((List.pairwise_cons.mp h).1 z hz)
      · rename_i hnl
        obtain ⟨h1, h2⟩ := List.pairwise_cons.mp h
        refine List.pairwise_cons.mpr ⟨fun z hz => ?_, ins_sorted h2⟩
        rcases mem_insR.mp hz with rfl | hz
        · rcases ints_lt_tri y z with g | g | g
          · exact g
          · exact absurd g.symm hne
          · exact absurd g hnl
        · exact h1 z hz
theorem ssR_sorted : ∀ ks : List (List Int), (ssR ks).Pairwise (· < ·)
  | [] => .nil
  | k :: ks => ins_sorted (ssR_sorted ks)
theorem sorted_uniq : ∀ {as bs : List (List Int)}, as.Pairwise (· < ·) → bs.Pairwise (· < ·) → (∀ x, x ∈ as ↔ x ∈ bs) → as = bs
  | [], [], _, _, _ => rfl
  | [], b :: bs, _, _, h => absurd ((h b).mpr (by simp)) (by simp)
  | a :: as, [], _, _, h => absurd ((h a).mp (by simp)) (by simp)
  | a :: as, b :: bs, h1, h2, h => by
    obtain ⟨p1, p2⟩ := List.pairwise_cons.mp h1
    obtain ⟨q1, q2⟩ := List.pairwise_cons.mp h2
    have e : a = b := by
      rcases List.mem_cons.mp ((h a).mp (by simp)) with z | z
      · exact z
      · rcases List.mem_cons.mp ((h b).mpr (by simp)) with w | w
        · exact w.symm
        · exact absurd (List.lt_trans (q1 a z) (p1 b w)) (List.lt_irrefl b)
    subst e
    rw [sorted_uniq p2 q2 fun x => ?_]
    have := h x
    simp only [List.mem_cons] at this
    constructor
    · intro hx
      rcases this.mp (.inr hx) with z | z
      · subst z; exact absurd (p1 x hx) (List.lt_irrefl x)
      · exact z
    · intro hx
      rcases this.mpr (.inr hx) with z | z
      · subst z; exact absurd (q1 x hx) (List.lt_irrefl x)
      · exact z
theorem code_iff {B : Int} : ∀ {x y : List Int}, x.length = y.length → TS.Bd B x → TS.Bd B y → (x < y ↔ TS.code B x < TS.code B y)
  | [], [], _, _, _ => by simp [TS.code]
  | [], _ :: _, h, _, _ => by simp at h
  | _ :: _, [], h, _, _ => by simp at h
  | a :: x, b :: y, h, hx, hy => by
    have hl : x.length = y.length := by simpa using h
    rw [List.cons_lt_cons_iff]
    rcases Int.lt_trichotomy a b with c | c | c
    · exact ⟨fun _ => TS.code_lt hl hx.tail hy.tail c, fun _ => .inl c⟩
    · subst c
      rw [TS.code_same hl, ← code_iff hl hx.tail hy.tail]
      constructor
      · rintro (z | ⟨_, z⟩)
        · omega
        · exact z
      · exact fun z => .inr ⟨rfl, z⟩
    · have := TS.code_lt hl.symm hy.tail hx.tail c
      constructor
      · rintro (z | ⟨z, _⟩) <;> omega
      · intro z; omega
section
variable {X : Cx} {e : Expr}
theorem reps_rows {K : PySem.W.Frag} {ρ : Rho} {H : Hp} : ∀ {ks : List (List Int)} {vs : List V}, RepL ρ H (ks.map rowD) vs → ∃ ps : List (Addr × List Int), vs = ps.map (fun p => V.ref p.1) ∧ ps.map (·.2) = ks ∧ ∀ p ∈ ps, H p.1 = some (.tup (p.2.map V.int)) ∧ ρ.Fr p.1
  | [], _, h => by cases h; exact ⟨[], rfl, rfl, fun p hp => by cases hp⟩
  | k :: ks, _, h => by
    cases h with
    | cons r t =>
      obtain ⟨ps, h1, h2, h3⟩ := reps_rows (K := K) t
      obtain ⟨a, vs, rfl, g1, g2, g3⟩ := rep_tup r
      have := g3.ints
      subst this
      exact ⟨(a, k) :: ps, by rw [h1]; rfl, by rw [← h2]; rfl, fun p hp => by
        rcases List.mem_cons.mp hp with rfl | hp
        · exact ⟨g1, g2⟩
        · exact h3 p hp⟩
theorem of_rows {ρ : Rho} {H : Hp} : ∀ ps : List (Addr × List Int), (∀ p ∈ ps, H p.1 = some (.tup (p.2.map V.int)) ∧ ρ.Fr p.1) → RepL ρ H ((ps.map (·.2)).map rowD) (ps.map fun p => V.ref p.1)
  | [], _ => .nil
  | p :: ps, h => .cons (.tup (h p (by simp)).1 (h p (by simp)).2 (RepL.ofInts p.2)) (of_rows ps fun q hq => h q (by simp [hq]))
theorem d_sortedSet {m : ME} {p1 p2 pos1 pos2 : Pos} (hc : X.calm = true) (hu : X.A.units + 64 < cLine) (hg : Gl X "sorted") (hm : X.mg "sorted" = none) (hg2 : Gl X "set") (hm2 : X.mg "set" = none) (he : PD X e m)
    (ht : starEach [e] X.env = (false, eval e X.env) :: starEach [] X.env := by rfl) (hpl : (backTo pos2 (starEach [] X.env)).any (·.1) = false := by rfl)
    (ht2 : starEach [Expr.Call (.Name "set" p2) [e] [] pos2] X.env = (false, eval (.Call (.Name "set" p2) [e] [] pos2) X.env) :: starEach [] X.env := by rfl) (hpl2 : (backTo pos1 (starEach [] X.env)).any (·.1) = false := by rfl) :
    PD X (.Call (.Name "sorted" p1) [.Call (.Name "set" p2) [e] [] pos2] [] pos1) (mCall (pure1 vSortedSet) (mCons m mNil)) :=
  peImp (pe_callB (cr_sortedT hc) hg hm (by rfl) (pa_cons (pe_callTy (cr_setOfT hc hu) hg2 hm2 (by rfl) (pa_cons he pa_nil ht) (by decide) (by decide) ht hpl) pa_nil ht2) (by decide) (by decide) ht2 hpl2) fun σ H Q ⟨ρ, σd, S, w, S', hs, hE, hmm, q⟩ => by
    obtain ⟨⟨ws, S1⟩, h1, hmm⟩ := Option.bind_eq_some_iff.mp hmm
    obtain ⟨⟨w1, S2⟩, h2, h1⟩ := Option.bind_eq_some_iff.mp h1
    rw [Option.map_eq_some_iff] at h1
    obtain ⟨⟨ws2, S3⟩, h3, h4⟩ := h1
    cases h3
    cases h4
    dsimp only at hmm
    have hmm' : (vSortedSet S2 w1).map (fun r => (r, S2)) = some (w, S') := hmm
    rw [Option.map_eq_some_iff] at hmm'
    obtain ⟨w2, h5, h6⟩ := hmm'
    cases h6
    obtain ⟨ds, h7, h5⟩ := Option.bind_eq_some_iff.mp h5
    obtain ⟨ks, h8, h5⟩ := Option.bind_eq_some_iff.mp h5
    obtain ⟨hok, h5⟩ := some_if h5
    cases h5
    obtain ⟨hlen, d, B, hd, hB⟩ := says_of hok
    refine ⟨ρ, σd, S, w1, S', hs, hE, h2, fun ρ1 v H1 e1 s1 r1 => ?_⟩
    obtain ⟨a, vs, rfl, hq, hr⟩ := asL_rel s1 r1 h7
    have hds := rowsI_eq h8
    subst hds
    obtain ⟨ps, rfl, hps, hp3⟩ := reps_rows (K := X.K) hr
    have hinv : ∀ p ∈ ps, p.2 ∈ ks := fun p hp => by rw [← hps]; exact List.mem_map.mpr ⟨p, hp, rfl⟩
    refine ⟨a, ps, rfl, hq, fun p hp => SqT.of (hp3 p hp).1, ?_, fun t L ht hL1 hL2 => ?_⟩
    · have := congrArg List.length hps
      rw [List.length_map] at this
      omega
    · have hg1 : ∀ p ∈ L, (upd H1 t (SetTO X.prog X.w t L)) p.1 = some (.tup (p.2.map V.int)) := fun p hp => by
        have := (hp3 p (hL1 p hp)).1
        rw [upd_ne (ne_of_none this ht)]
        exact this
      refine ⟨t, L, d, B, rfl, upd_same, fun p hp => SqT.of (hg1 p hp), hd, fun p hp => hB _ (hinv p (hL1 p hp)), fun L' p pm nd hl pw hp => ?_⟩
      have hsub : ∀ x ∈ L', x ∈ ps := fun x hx => hL1 x (pm.mem_iff.mp hx)
      have hkey : L'.map (·.2) = ssR ks := by
        refine sorted_uniq ?_ (ssR_sorted ks) fun x => ?_
        · refine List.pairwise_map.mpr ?_
          have nd' : L'.Pairwise (fun q r => q.2 ≠ r.2) := List.pairwise_map.mp nd
          refine List.Pairwise.imp_of_mem (fun {x y} hx hy h => ?_) (pw.and nd')
          obtain ⟨b1, b2⟩ := hB _ (hinv x (hsub x hx))
          obtain ⟨c1, c2⟩ := hB _ (hinv y (hsub y hy))
          have hl2 : x.2.length = y.2.length := by rw [b1, c1]
          rcases ints_lt_tri x.2 y.2 with g | g | g
          · exact g
          · exact absurd g h.2
          · have := (code_iff hl2.symm c2 b2).mp g
            have := h.1
            omega
        · rw [mem_ssR]
          constructor
          · intro hx
            obtain ⟨y, hy, rfl⟩ := List.mem_map.mp hx
            exact hinv y (hsub y hy)
          · intro hx
            rw [← hps] at hx
            obtain ⟨y, hy, rfl⟩ := List.mem_map.mp hx
            obtain ⟨z, hz, e⟩ := List.mem_map.mp (hL2 y hy)
            exact List.mem_map.mpr ⟨z, pm.mem_iff.mpr hz, e⟩
      have e2 : Ext ρ1 H1 ρ1 (upd H1 t (SetTO X.prog X.w t L)) := Ext.new ht
      have e3 := Ext.new (ρ := ρ1) (H := upd H1 t (SetTO X.prog X.w t L)) (o := .lst (L'.map fun q => V.ref q.1)) hp
      refine q ρ1 _ _ ((e1.trans e2).trans e3) ((s1.new ht).new hp) (.lst upd_same ((s1.new ht).fresh hp) ?_)
      rw [← hkey]
      refine of_rows L' fun x hx => ?_
      obtain ⟨g1, g2⟩ := hp3 x (hsub x hx)
      exact (e2.trans e3).at g1 g2
end
/-! ### t < u, tuples of ints; a dict written in the text -/
def vLtR : G2 := fun S x y => match x, y with
  | .d (.tuple as), .d (.tuple bs) => (intsOf as).bind fun ns => (intsOf bs).map fun ms => .d (.bool (HT.lexLt ns ms))
  | .d (.int i), .d (.int j) => some (.d (.bool (decide (i < j))))
  | _, _ => none
section
variable {X : Cx} {e : Expr}
theorem o_ltR (hu : X.A.units < cLine) : OpD X (compareOp .Lt) vLtR := by
  rintro pins s σ H v u v' u' Q I r1 r2 ⟨ρ, S, x, y, w, hs, rx, ry, hg, q⟩
  unfold vLtR at hg
  split at hg
  · obtain ⟨ns, h1, hg⟩ := Option.bind_eq_some_iff.mp hg
    rw [Option.map_eq_some_iff] at hg
    obtain ⟨ms, h2, rfl⟩ := hg
    rw [intsOf_eq h1] at rx
    rw [intsOf_eq h2] at ry
    obtain ⟨a, vs, rfl, g1, _, g3⟩ := rep_tup rx
    obtain ⟨b, us, rfl, k1, _, k3⟩ := rep_tup ry
    have := g3.ints
    subst this
    have := k3.ints
    subst this
    exact op_ltT hu pins s σ H _ _ _ _ Q I r1 r2 ⟨a, b, ns, ms, rfl, rfl, SqT.of g1, SqT.of k1, q ρ _ H .refl hs (.bl _)⟩
  · cases hg
    cases rx; cases ry
    exact op_lt pins s σ H _ _ _ _ Q I r1 r2 ⟨_, _, rfl, rfl, q ρ _ H .refl hs (.bl _)⟩
  · cases hg
/-- the pairs: texts or ints as keys -/
abbrev MPr := Env → Sto → Option (List (Key × D) × Sto)
@[simp] def mPr0 : MPr := fun _ S => some ([], S)
@[simp] def mPr (k : Key) (m : ME) (r : MPr) : MPr := fun σ S => (m σ S).bind fun v => (asD1 v.1).bind fun d => (r σ v.2).map fun q => ((k, d) :: q.1, q.2)
def mDisp (r : MPr) : ME := fun σ S => (r σ (S ++ [.dK []])).bind fun q => match q.2[S.length]? with
  | some (.dK []) => if decide (q.1.length ≤ 15) = true then some (.loc S.length, q.2.set S.length (.dK (q.1.foldl (fun acc kv => putD acc kv.1 kv.2) []))) else none
  | _ => none
/-- what is made on the way is forgotten -/
def mTmp (m : ME) : ME := fun σ S => (m σ S).bind fun r => match r.1 with
  | .d x => some (.d x, r.2.take S.length)
  | _ => none
theorem d_tmp {m : ME} (h : PD X e m) : PD X e (mTmp m) := peImp h fun σ H Q ⟨ρ, σd, S, w, S', hs, he, hm, q⟩ => by
  obtain ⟨⟨w1, S1⟩, h1, hm⟩ := Option.bind_eq_some_iff.mp hm
  refine ⟨ρ, σd, S, w1, S1, hs, he, h1, fun ρ1 v1 H1 e1 s1 r1 => ?_⟩
  dsimp only at hm
  split at hm
  · cases hm
    refine q (ρ1.cut S.length) v1 H1 (e1.cut (by rw [hs.len]; exact Nat.le_refl _)) s1.cut ?_
    exact Rep.sub (ρ' := ρ1.cut S.length) (fun a n => ⟨fun z => n.1 (List.mem_of_mem_take z), n.2⟩) r1
  · cases hm
structure PDPr (X : Cx) (pos : Pos) (keys : List (Option Expr)) (values : List Expr) (m : MPr) : Prop where
  run : ∃ trs, PPs X pos keys values trs ∧ ∀ ρ σd σ H S kvs S' (Q : List (V × V) → Hp → Prop), SRel ρ H S → RelE X.K ρ H σd σ → m σd S = some (kvs, S') →
    (∀ ρ' us H', Ext ρ H ρ' H' → SRel ρ' H' S' → RepKV ρ' H' kvs us → Q (us.map fun kv => (kV kv.1, kv.2)) H') → tPairs trs σ H Q
theorem dpr_nil {pos : Pos} : PDPr X pos [] [] mPr0 := ⟨⟨[], pps_nil, fun ρ σd σ H S kvs S' Q hs he hm q => by
  cases hm
  exact q ρ [] H .refl hs .nil⟩⟩
theorem dpr_cons {pos : Pos} {k : Key} {ke v : Expr} {ks : List (Option Expr)} {vs : List Expr} {m : ME} {r : MPr} (hk : PE X ke (tC (kV k))) (hv : PD X v m) (hr : PDPr X pos ks vs r) : PDPr X pos (some ke :: ks) (v :: vs) (mPr k m r) := by
  obtain ⟨⟨trs, h1, h2⟩⟩ := hr
  refine ⟨⟨_, pps_cons hk hv h1, fun ρ σd σ H S kvs S' Q hs he hm q => ?_⟩⟩
  obtain ⟨⟨w, S1⟩, g1, hm⟩ := Option.bind_eq_some_iff.mp hm
  obtain ⟨d, g2, hm⟩ := Option.bind_eq_some_iff.mp hm
  rw [Option.map_eq_some_iff] at hm
  obtain ⟨⟨kvs2, S2⟩, g3, g4⟩ := hm
  cases g4
  show tD X.K m σ H _
  refine ⟨ρ, σd, S, w, S1, hs, he, g1, fun ρ1 v1 H1 e1 s1 r1 => ?_⟩
  refine h2 ρ1 σd σ H1 S1 kvs2 _ _ s1 (he.ext e1) g3 fun ρ2 us H2 e2 s2 r2 => ?_
  cases w with
  | d x =>
    cases g2
    exact q ρ2 ((k, v1) :: us) H2 (e1.trans e2) s2 (.cons (Rep.ext e2 r1) r2)
  | _ => cases g2
theorem foldl_put {ρ : Rho} {H : Hp} : ∀ {more : List (Key × D)} {us : List (Key × V)} {kvs : List (Key × D)} {vs : List (Key × V)}, RepKV ρ H more us → RepKV ρ H kvs vs → RepKV ρ H (more.foldl (fun acc kv => putD acc kv.1 kv.2) kvs) (mergeK vs us) := by
  intro more us kvs vs r
  induction r generalizing kvs vs with
  | nil => exact fun h => h
  | cons r1 _ ih => exact fun h => ih (h.put _ r1)
theorem d_disp {pos : Pos} {keys : List (Option Expr)} {values : List Expr} {m : MPr} (h : PDPr X pos keys values m) (hall : keys.all (·.isSome) = true := by rfl) (hl : keys.length = values.length := by rfl) (h0 : keys ≠ [] := by simp) (h15 : keys.length ≤ 15 := by decide) : PD X (.Dict keys values pos) (mDisp m) := by
  obtain ⟨⟨trs, h1, h2⟩⟩ := h
  refine peImp (pe_disp h1 hall hl h0 h15) fun σ H Q ⟨ρ, σd, S, w, S', hs, he, hm, q⟩ => ?_
  obtain ⟨⟨kvs, S1⟩, g1, hm⟩ := Option.bind_eq_some_iff.mp hm
  dsimp only at hm
  split at hm
  · rename_i g0
    obtain ⟨g2, hm⟩ := some_if hm
    cases hm
    intro p hp
    have hs1 : SRel (ρ.add p) (upd H p (.dK [])) (S ++ [.dK []]) := hs.alloc hp ⟨[], upd_same, .nil⟩
    have hE1 : Ext ρ H (ρ.add p) (upd H p (.dK [])) := Ext.alloc hs hp
    refine h2 (ρ.add p) σd σ _ _ kvs S1 _ hs1 (he.ext hE1) g1 fun ρ1 us H1 e1 s1 r1 => ?_
    obtain ⟨a, ha⟩ := s1.live S.length _ g0 (by intro z; cases z)
    have hlt : S.length < (ρ.add p).l.length := by simp [Rho.add, hs.len]
    have hap : a = p := by
      have := e1.loc S.length a hlt ha
      have e2 : (ρ.add p).l[S.length]? = some (some p) := by
        show (ρ.l ++ [some p])[S.length]? = _
        rw [List.getElem?_append_right (by rw [hs.len]; exact Nat.le_refl _), hs.len]
        simp
      rw [e2] at this
      cases this
      rfl
    subst hap
    obtain ⟨o, k1, k2⟩ := s1.obj S.length a ha
    rw [g0] at k1
    cases k1
    obtain ⟨us0, k3, k4⟩ := k2
    cases k4
    have hm' := List.mem_of_getElem? ha
    refine ⟨k3, us, rfl, by rw [← r1.length]; exact of_decide_eq_true g2, ?_⟩
    refine q ρ1 _ _ ((hE1.trans e1).trans (Ext.write hm')) (s1.write ha ⟨_, upd_same, (foldl_put r1 .nil).ext (Ext.write hm')⟩) ⟨(List.getElem?_eq_some_iff.mp ha).1, fun b hb => ?_⟩
    rw [ha] at hb
    cases hb
    rfl
  · cases hm
end
theorem u70 {k : Nat} {A : Around} (r : Room k A) : A.units + 70 < cLine := by have := r.un; omega
end DL

set_option Elab.async false
set_option linter.all false
set_option maxRecDepth 100000
set_option autoImplicit false
/-! A list that a comprehension makes and that is to be changed. -/
noncomputable section
namespace DL
open PySem PySem.Spec PyProof.Rows L2
section
variable {K : PySem.W.Frag} {ρ : Rho} {H : Hp} {S : Sto}
variable {X : Cx} {e a b c tg : Expr} {pos : Pos} {st : Stmt} {rest : List Stmt} {es : List Expr}
@[simp] def mCompN (mi : MI) (g : MG) (t : MT) (m : ME) (vs : List Nat) : ME := fun σ S => (mi σ S).bind fun r => (compM g t m r.1 (wipeD σ vs) r.2 []).map fun q => (.loc q.2.length, q.2 ++ [.lst q.1])
theorem compN_of {K : PySem.W.Frag} {mi : MI} {g : MG} {mt : MT} {m : ME} {vs : List Nat} {σ : L2.St} {H : Hp} {Q : VK}
    (h : tD K (mCompN mi g mt m vs) σ H Q) : tLc (iD K mi) (gC K vs g) (tDT K mt) (tD K m) vs σ H Q := by
  obtain ⟨ρ, σd, S, w, S', hs, he, hm, q⟩ := h
  obtain ⟨⟨ds, S1⟩, h1, hm⟩ := Option.bind_eq_some_iff.mp hm
  rw [Option.map_eq_some_iff] at hm
  obtain ⟨⟨out, S2⟩, h2, h3⟩ := hm
  cases h3
  refine ⟨ρ, σd, S, ds, S1, hs, he, h1, fun ρ1 J H1 e1 s1 iok => ?_⟩
  intro Dd hD
  have hbl := block_mv (ρ := ρ1) (o := .lst []) hD
  have e0 : Ext ρ1 H1 (ρ1.block Dd) (upd H1 Dd (.lst [])) := ⟨fun a o ha na => ⟨(Ext.new (ρ := ρ1) hD).keep a o ha na |>.1, na⟩, fun _ _ _ h => h, Nat.le_refl _, none_of_upd, fun a h => (List.mem_cons.mp h).elim (fun z => .inr (z ▸ hD)) .inl, fun a h => List.mem_cons_of_mem _ h⟩
  refine ⟨fun i n H' => n = ds.length - i ∧ ∃ ρ' S' acc us, Ext ρ1 H1 ρ' H' ∧ Dd ∈ ρ'.b ∧ SRel ρ' H' S' ∧ RelE K ρ' H' (wipeD σd vs) (L2.wipe σ vs) ∧ H' Dd = some (.lst us) ∧ RepL ρ' H' acc us ∧ compM g mt m (ds.drop i) (wipeD σd vs) S' acc = some (out, S2), ?_, ?_⟩
  · exact ⟨ds.length, rfl, ρ1.block Dd, S1, [], [], e0, List.mem_cons_self, s1.blocked hD, ((he.ext e1).wipe vs).mv hbl rfl, upd_same, .nil, by simpa using h2⟩
  rintro i n H2 ⟨rfl, ρ2, S3, acc, us, e2, b2, s2, he2, hD2, ra, hf⟩
  have nD2 : some Dd ∉ ρ2.l := (s2.blk Dd b2).2
  obtain ⟨stop, go⟩ := iok _ H2 S3 e2 s2 i
  by_cases hi : i < ds.length
  · obtain ⟨d, hd⟩ : ∃ d, ds[i]? = some d := ⟨ds[i], by simp [hi]⟩
    obtain ⟨hgo, hy⟩ := go d hd
    have hdr : ds.drop i = d :: ds.drop (i + 1) := by
      rw [List.drop_eq_getElem_cons hi]
      congr 1
      have := List.getElem?_eq_getElem hi
      rw [this] at hd
      exact Option.some.inj hd
    rw [hdr] at hf
    obtain ⟨σ3, h3, hf⟩ := Option.bind_eq_some_iff.mp hf
    obtain ⟨⟨k, S4⟩, h4, hf⟩ := Option.bind_eq_some_iff.mp hf
    refine .inr ⟨hgo, fun H' => ∃ ρ' S' acc us, Ext ρ1 H1 ρ' H' ∧ Dd ∈ ρ'.b ∧ SRel ρ' H' S' ∧ RelE K ρ' H' (wipeD σd vs) (L2.wipe σ vs) ∧ H' Dd = some (.lst us) ∧ RepL ρ' H' acc us ∧ compM g mt m (ds.drop (i + 1)) (wipeD σd vs) S' acc = some (out, S2), fun H' hN => ⟨ds.length - (i + 1), by omega, rfl, hN⟩, ?_⟩
    intro x H3 hyl
    obtain ⟨gr, rx⟩ := hy x H3 hyl
    have e3 : Ext ρ2 H2 ρ2 H3 := Ext.gr gr
    refine ⟨ρ2, wipeD σd vs, S3, .d d, σ3, s2.gr gr, he2.ext e3, rx, h3, fun ρ4 σ4 H4 e4 s4 r4 w4 => ⟨by rw [w4, wipe_idem], ?_⟩⟩
    refine ⟨ρ4, σ3, S3, k, S4, s4, r4, h4, fun ρ5 H5 e5 s5 => ?_⟩
    have e25 : Ext ρ2 H2 ρ5 H5 := (e3.trans e4).trans e5
    obtain ⟨hD5, nD5⟩ := e25.keep _ _ hD2 nD2
    cases k with
    | true =>
      dsimp only at hf ⊢
      rw [if_pos rfl] at hf ⊢
      obtain ⟨⟨w6, S6⟩, h6, hf⟩ := Option.bind_eq_some_iff.mp hf
      obtain ⟨x6, hx6, hf⟩ := Option.bind_eq_some_iff.mp hf
      refine ⟨ρ5, σ3, S4, w6, S6, s5, r4.ext e5, h6, fun ρ6 v6 H6 e6 s6 r6 => ?_⟩
      have e26 := e25.trans e6
      obtain ⟨hD6, nD6⟩ := e26.keep _ _ hD2 nD2
      have b6 := e26.bsub _ b2
      dsimp only at hf
      split at hf
      · rename_i hfit
        have r6' : Rep ρ6 H6 x6 v6 := by
          cases w6 with
          | d y => cases hx6; exact r6
          | _ => cases hx6
        have e16 := e2.trans e26
        refine ⟨us, hD6, by rw [← ra.length]; exact fits_lt hfit, ρ6, S6, acc ++ [x6], us ++ [v6], ?_, b6, s6.blkW b6, (he2.ext e26).mv (blk_mv b6) rfl, upd_same, ?_, hf⟩
        · exact ⟨fun a o ha na => by
            have hne : a ≠ Dd := ne_of_none ha hD
            rw [upd_ne hne]
            exact e16.keep a o ha na, e16.loc, e16.len, fun a h => e16.dom a (none_of_upd a h), e16.bnew, e16.bsub⟩
        · exact ((ra.ext e26).append (.cons r6' .nil)).mv (blk_mv b6)
      · cases hf
    | false =>
      dsimp only at hf ⊢
      rw [if_neg Bool.false_ne_true] at hf ⊢
      exact ⟨ρ5, S4, acc, us, e2.trans e25, e25.bsub _ b2, s5, he2.ext e25, hD5, ra.ext e25, hf⟩
  · have hn : ds.drop i = [] := List.drop_eq_nil_of_le (by omega)
    rw [hn] at hf
    cases hf
    have hsub : ∀ a, a ∈ ρ2.b.filter (fun a => decide (a ≠ Dd)) → a ∈ ρ2.b := fun a h => (List.mem_filter.mp h).1
    have e2' : Ext ρ1 H1 ⟨ρ2.l, ρ2.b.filter (fun a => decide (a ≠ Dd))⟩ H2 := ⟨e2.keep, e2.loc, e2.len, e2.dom, fun a h => e2.bnew a (hsub a h), fun a h => List.mem_filter.mpr ⟨e2.bsub a h, by
      have : a ≠ Dd := fun z => s1.freshb hD (z ▸ h)
      simpa using this⟩⟩
    have hfr : ∀ a, ρ2.Fr a → (Rho.add ⟨ρ2.l, ρ2.b.filter (fun a => decide (a ≠ Dd))⟩ Dd).Fr a := fun a n => ⟨fun z => by
      rcases List.mem_append.mp z with z | z
      · exact n.1 z
      · simp at z; exact n.2 (z ▸ b2), fun z => n.2 (hsub a z)⟩
    have e3' : Ext ρ1 H1 (Rho.add ⟨ρ2.l, ρ2.b.filter (fun a => decide (a ≠ Dd))⟩ Dd) H2 := ⟨fun a o ha na => ⟨(e2'.keep a o ha na).1, fun z => by
      rcases List.mem_append.mp z with z | z
      · exact (e2'.keep a o ha na).2 z
      · simp at z; subst z; rw [hD] at ha; cases ha⟩, fun i a hi q => by
        have q' : (ρ2.l ++ [some Dd])[i]? = some (some a) := q
        rw [List.getElem?_append_left (Nat.lt_of_lt_of_le hi e2.len)] at q'
        exact e2.loc i a hi q', Nat.le_trans e2.len (by simp [Rho.add]), e2'.dom, e2'.bnew, e2'.bsub⟩
    have s3' : SRel (Rho.add ⟨ρ2.l, ρ2.b.filter (fun a => decide (a ≠ Dd))⟩ Dd) H2 (S2 ++ [.lst out]) := ⟨by simp [s2.len, Rho.add], fun i a e => by
      rcases add_at e with ⟨hi, e'⟩ | ⟨hi, rfl⟩
      · obtain ⟨u, h1, h2⟩ := s2.obj i a e'
        exact ⟨u, by rw [List.getElem?_append_left (by rw [← s2.len]; exact hi)]; exact h1, ORel.sub hfr h2⟩
      · refine ⟨.lst out, ?_, ⟨us, hD2, RepL.sub hfr ra⟩⟩
        have hi : i = ρ2.l.length := hi
        rw [hi, s2.len, List.getElem?_append_right (Nat.le_refl _)]
        simp, fun i j a e1 e2 => by
      rcases add_at e1 with ⟨h1, q1⟩ | ⟨h1, q1⟩ <;> rcases add_at e2 with ⟨h2, q2⟩ | ⟨h2, q2⟩
      · exact s2.inj i j a q1 q2
      · subst q2; exact absurd (List.mem_of_getElem? q1) nD2
      · subst q1; exact absurd (List.mem_of_getElem? q2) nD2
      · omega, fun i u e hu => by
      by_cases hi : i < S2.length
      · rw [List.getElem?_append_left hi] at e
        obtain ⟨a, q⟩ := s2.live i u e hu
        refine ⟨a, ?_⟩
        show (ρ2.l ++ [some Dd])[i]? = _
        rw [List.getElem?_append_left (by rw [s2.len]; exact hi)]
        exact q
      · rw [List.getElem?_append_right (by omega)] at e
        have : i - S2.length = 0 := by
          cases q : i - S2.length with
          | zero => rfl
          | succ n => rw [q] at e; simp at e
        refine ⟨Dd, ?_⟩
        show (ρ2.l ++ [some Dd])[i]? = _
        rw [List.getElem?_append_right (by rw [s2.len]; omega), s2.len, this]
        rfl, fun a ha => by
      obtain ⟨h1, h2⟩ := s2.blk a (hsub a ha)
      refine ⟨h1, fun z => ?_⟩
      rcases List.mem_append.mp z with z | z
      · exact h2 z
      · simp at z; subst z
        have := (List.mem_filter.mp ha).2
        simp at this⟩
    refine .inl ⟨stop (by omega), q _ _ H2 (e1.trans e3') s3' ?_⟩
    refine ⟨by simp [s2.len, Rho.add], fun a ha => ?_⟩
    have ha : (ρ2.l ++ [some Dd])[S2.length]? = some (some a) := ha
    rw [← s2.len, List.getElem?_append_right (Nat.le_refl _)] at ha
    simp at ha
    rw [ha]
theorem d_setCompN (i : Nat) {y : Str} {py spos : Pos} {elt iter : Expr} {ifs : List Expr} {scope : Scope} (own : List (Str × Nat)) {mi : MI} {g : MG} {mt : MT} {m : ME} (hc : X.calm = true) (hN : X.N.Nodup) (hy : X.N[i]? = some y) (hyl : X.env.scope.names.lookup y = some .local)
    (hsw : swapsWith (.ListComp elt [⟨tg, iter, ifs, 0⟩] scope pos) (some (.Name y py)) spos.line X.env = pure true) (hi : PDI X tg iter mi) (ok : BlkOk X.N X.env.scope scope own)
    (hg : ∀ (s : Shared) (H : Hp) (C : Addr) (cl : List (Str × Addr)) (fp : List Addr), PDGc (X.blk s H scope (compEnvC scope cl C X.env) fp) (own.map (·.2)) tg g) (ht : ∀ (s : Shared) (H : Hp) (C : Addr) (cl : List (Str × Addr)) (fp : List Addr), PDTs (X.blk s H scope (compEnvC scope cl C X.env) fp) ifs mt)
    (he : ∀ (s : Shared) (H : Hp) (C : Addr) (cl : List (Str × Addr)) (fp : List Addr), PD (X.blk s H scope (compEnvC scope cl C X.env) fp) elt m) (hs : ∀ x, foldedSetIterable iter X.env x = pure x := by intro _; rfl) :
    PDS X (.Assign [.Name y py] (.ListComp elt [⟨tg, iter, ifs, 0⟩] scope pos) spos) (mAsg i (mCompN mi g mt m (own.map (·.2)))) :=
  psImp (ps_setLc hc hN hy hyl hsw hi ok hg ht he hs) fun D σ H h => by
    obtain ⟨ρ, σd, S, out, hs, he, hm, q⟩ := h
    unfold mAsg at hm
    rw [Option.map_eq_some_iff] at hm
    obtain ⟨⟨w, S1⟩, h1, h2⟩ := hm
    cases h2
    exact compN_of ⟨ρ, σd, S, w, S1, hs, he, h1, fun ρ1 v H1 e1 s1 r1 => q ρ1 _ H1 e1 s1 ((he.ext e1).set r1 i)⟩
/-- a, b = x, y where a name is a cell -/
theorem d_par2c (i j : Nat) {x y : Str} {m : MA} {px py pt : Pos} {kt k2 pt2} (hc : X.calm = true) (hN : X.N.Nodup) (hx : Loc X.env.scope x) (hy : Loc X.env.scope y) (ha : PDA X [a, b] m)
    (hi : X.N[i]? = some x := by rfl) (hj : X.N[j]? = some y := by rfl) (hfx : X.fn x = true ∨ X.env.scope.names.lookup x = some .local := by first | exact .inl rfl | exact .inr rfl) (hfy : X.fn y = true ∨ X.env.scope.names.lookup y = some .local := by first | exact .inl rfl | exact .inr rfl)
    (hw : swappedStores [.Tuple [.Name x px, .Name y py] kt pt] (.Tuple [a, b] k2 pt2) X.env = pure none := by rfl)
    (hs : swapsWithSole [.Tuple [.Name x px, .Name y py] kt pt] (.Tuple [a, b] k2 pt2) pos.line X.env = pure false := by rfl)
    (h1 : (assignEach [.Tuple [.Name x px, .Name y py] kt pt] X.env).map (·.2) = [assign (.Tuple [.Name x px, .Name y py] kt pt) X.env] := by rfl)
    (hn : (assignEach [.Name x px, .Name y py] X.env).length = 2 := by rfl) (hst : (assignEach [.Name x px, .Name y py] X.env).findIdx? (·.1) = none := by rfl)
    (hs1 : (assignEach [.Name x px, .Name y py] X.env).map (·.2) = assign (.Name x px) X.env :: (assignEach [.Name y py] X.env).map (·.2) := by rfl) (hs2 : (assignEach [.Name y py] X.env).map (·.2) = assign (.Name y py) X.env :: (assignEach [] X.env).map (·.2) := by rfl) :
    PDS X (.Assign [.Tuple [.Name x px, .Name y py] kt pt] (.Tuple [a, b] k2 pt2) pos) (mPar2 i j m) := psImp (ps_asg (pe_tup ha) (pg_tup hc (pgs_cons (pg_name hN hi hx hfx) (pgs_cons (pg_name hN hj hy hfy) pgs_nil hs2) hs1) hn hst) hs hw h1) fun D σ H ⟨ρ, σd, S, out, hs, he, hm, q⟩ => by
  obtain ⟨⟨ws, S1⟩, h1, hm⟩ := Option.bind_eq_some_iff.mp hm
  refine ⟨ρ, σd, S, ws, S1, hs, he, h1, fun ρ1 vs H1 e1 s1 r1 => ?_⟩
  simp only at hm
  split at hm
  · rename_i u v
    cases hm
    obtain ⟨y1, y2, rfl, q1, q2⟩ := r1.two
    refine ⟨by rw [sizeLine_eq]; show 2 ≤ 16777216; decide, fun p hp => ?_⟩
    have e2 := Ext.new (ρ := ρ1) (H := H1) (o := .tup [y1, y2]) hp
    refine ⟨p, _, rfl, SqT.of upd_same, rfl, y1, [y2], rfl, y2, [], rfl, rfl, ?_⟩
    exact q ρ1 _ _ (e1.trans e2) (s1.new hp) (((he.ext (e1.trans e2)).set (q1.ext e2) i).set (q2.ext e2) j)
  · cases hm
/-- (.., *m, ..), m a tuple -/
@[simp] def mStar (m : ME) (r : MA) : MA := fun σ S => (m σ S).bind fun q => (asT q.1).bind fun ds => (r σ q.2).map fun p => (ds.map (fun d => W.d d) ++ p.1, p.2)
theorem rels_of {K : PySem.W.Frag} {ρ : Rho} {H : Hp} : ∀ {ds : List D} {vs : List V} {ws : List W} {us : List V}, RepL ρ H ds vs → RelWs K ρ H ws us → RelWs K ρ H (ds.map (fun d => W.d d) ++ ws) (vs ++ us)
  | _, _, _, _, .nil, t => t
  | _, _, _, _, .cons r h, t => .cons r (rels_of h t)
theorem da_star {p : Pos} {m : ME} {r : MA} (he : PD X e m) (hr : PDA X es r) (hs : starEach (.Starred e p :: es) X.env = (true, eval e X.env) :: starEach es X.env := by rfl) : PDA X (.Starred e p :: es) (mStar m r) :=
  paImp (StX.pa_star he hr hs) fun σ H Q ⟨ρ, σd, S, w, S', hs, hE, hm, q⟩ => by
    obtain ⟨⟨w1, S1⟩, h1, hm⟩ := Option.bind_eq_some_iff.mp hm
    obtain ⟨ds, hT, hm⟩ := Option.bind_eq_some_iff.mp hm
    rw [Option.map_eq_some_iff] at hm
    obtain ⟨⟨ws, S2⟩, h2, h3⟩ := hm
    cases h3
    refine ⟨ρ, σd, S, w1, S1, hs, hE, h1, fun ρ1 v1 H1 e1 s1 r1 => ?_⟩
    obtain ⟨a, vs, rfl, hq, hr⟩ := asT_rel r1 hT
    exact ⟨a, vs, rfl, .inl hq, ρ1, σd, S1, ws, S2, s1, hE.ext e1, h2, fun ρ2 us H2 e2 s2 r2 => q ρ2 _ H2 (e1.trans e2) s2 (rels_of (hr.ext e2) r2)⟩
end
end DL

set_option Elab.async false
set_option linter.all false
set_option maxRecDepth 100000
set_option autoImplicit false
/-! The typed layer: defs that change nothing from outside, as plain Lean functions over Int, Bool, List .. in Option; that they do so. -/
noncomputable section
namespace DL
open PySem PySem.Spec PyProof.Rows L2
/-! ### values as data -/
abbrev Enc (α : Type) := α → D
abbrev eI : Enc Int := fun i => PyData.int i
abbrev eB : Enc Bool := fun b => PyData.bool b
abbrev eS : Enc Str := fun x => PyData.str x
abbrev eN : Enc Unit := fun _ => PyData.none
abbrev eD : Enc D := fun d => d
abbrev eL {α : Type} (e : Enc α) : Enc (List α) := fun xs => PyData.list (xs.map e)
abbrev eV {α : Type} (e : Enc α) : Enc (List α) := fun xs => PyData.tuple (xs.map e)
abbrev eP {α β : Type} (e : Enc α) (f : Enc β) : Enc (α × β) := fun p => PyData.tuple [e p.1, f p.2]
abbrev eP3 {α β γ : Type} (e : Enc α) (f : Enc β) (g : Enc γ) : Enc (α × β × γ) := fun p => PyData.tuple [e p.1, f p.2.1, g p.2.2]
def eO {α : Type} (e : Enc α) : Enc (Option α)
  | none => PyData.none
  | some a => e a
/-- what a slot holds: this, an own mutable object, whatever -/
inductive Sl where
  | w (x : W) | m (o : O) | j
structure Sat (S0 : Sto) (L : List Sl) (σ : Env) (S : Sto) : Prop where
  len : σ.length = L.length
  base : S.take S0.length = S0
  w : ∀ (i : Nat) (x : W), L[i]? = some (Sl.w x) → σ[i]? = some (some x)
  m : ∃ f : Nat → Nat, (∀ (i : Nat) (o : O), L[i]? = some (Sl.m o) → σ[i]? = some (some (.loc (f i))) ∧ S0.length ≤ f i ∧ S[f i]? = some o) ∧ ∀ (i j : Nat) (o o' : O), L[i]? = some (Sl.m o) → L[j]? = some (Sl.m o') → f i = f j → i = j
theorem set_at {α : Type} {L : List α} {i j : Nat} {a b : α} (h : (L.set i a)[j]? = some b) : (i = j ∧ i < L.length ∧ a = b) ∨ (i ≠ j ∧ L[j]? = some b) := by
  rw [List.getElem?_set] at h
  split at h
  · rename_i e
    split at h
    · rename_i hl
      exact .inl ⟨e, hl, by simpa using h⟩
    · cases h
  · rename_i e
    exact .inr ⟨e, h⟩
theorem Sat.le {S0 : Sto} {L : List Sl} {σ : Env} {S : Sto} (h : Sat S0 L σ S) : S0.length ≤ S.length := by
  have := congrArg List.length h.base
  rw [List.length_take] at this
  omega
theorem Sat.setW {S0 : Sto} {L : List Sl} {σ : Env} {S : Sto} (h : Sat S0 L σ S) (i : Nat) (x : W) : Sat S0 (L.set i (.w x)) (σ.set i (some x)) S := by
  refine ⟨by simp [h.len], h.base, fun j y e => ?_, ?_⟩
  · rcases set_at e with ⟨rfl, hl, q⟩ | ⟨hne, q⟩
    · cases q
      rw [List.getElem?_set_self (by rw [h.len]; exact hl)]
    · rw [List.getElem?_set_ne hne]
      exact h.w j y q
  · obtain ⟨f, h1, h2⟩ := h.m
    refine ⟨f, fun j o e => ?_, fun j k o o' e1 e2 => ?_⟩
    · rcases set_at e with ⟨rfl, hl, q⟩ | ⟨hne, q⟩
      · cases q
      · rw [List.getElem?_set_ne hne]
        exact h1 j o q
    · rcases set_at e1 with ⟨rfl, _, q⟩ | ⟨hne, q1⟩
      · cases q
      · rcases set_at e2 with ⟨rfl, _, q⟩ | ⟨hne, q2⟩
        · cases q
        · exact h2 j k o o' q1 q2
theorem Sat.setJ {S0 : Sto} {L : List Sl} {σ : Env} {S : Sto} (h : Sat S0 L σ S) (i : Nat) (x : Option W) : Sat S0 (L.set i .j) (σ.set i x) S := by
  refine ⟨by simp [h.len], h.base, fun j y e => ?_, ?_⟩
  · rcases set_at e with ⟨rfl, hl, q⟩ | ⟨hne, q⟩
    · cases q
    · rw [List.getElem?_set_ne hne]
      exact h.w j y q
  · obtain ⟨f, h1, h2⟩ := h.m
    refine ⟨f, fun j o e => ?_, fun j k o o' e1 e2 => ?_⟩
    · rcases set_at e with ⟨rfl, hl, q⟩ | ⟨hne, q⟩
      · cases q
      · rw [List.getElem?_set_ne hne]
        exact h1 j o q
    · rcases set_at e1 with ⟨rfl, _, q⟩ | ⟨hne, q1⟩
      · cases q
      · rcases set_at e2 with ⟨rfl, _, q⟩ | ⟨hne, q2⟩
        · cases q
        · exact h2 j k o o' q1 q2
/-- a new object behind all -/
theorem Sat.push {S0 : Sto} {L : List Sl} {σ : Env} {S : Sto} (h : Sat S0 L σ S) (o : O) : Sat S0 L σ (S ++ [o]) := by
  have hle := h.le
  refine ⟨h.len, by rw [List.take_append_of_le_length hle]; exact h.base, h.w, ?_⟩
  obtain ⟨f, h1, h2⟩ := h.m
  refine ⟨f, fun j o' e => ?_, h2⟩
  obtain ⟨a, b, c⟩ := h1 j o' e
  exact ⟨a, b, by rw [List.getElem?_append_left (List.getElem?_eq_some_iff.mp c).1]; exact c⟩
theorem Sat.setM {S0 : Sto} {L : List Sl} {σ : Env} {S : Sto} (h : Sat S0 L σ S) (i n : Nat) (o : O) (hn : S[n]? = some o) (h0 : S0.length ≤ n) (hf : ∀ (j : Nat), σ[j]? = some (some (.loc n)) → ∀ o', L[j]? ≠ some (.m o')) : Sat S0 (L.set i (.m o)) (σ.set i (some (.loc n))) S := by
  refine ⟨by simp [h.len], h.base, fun j y e => ?_, ?_⟩
  · rcases set_at e with ⟨rfl, hl, q⟩ | ⟨hne, q⟩
    · cases q
    · rw [List.getElem?_set_ne hne]
      exact h.w j y q
  · obtain ⟨f, h1, h2⟩ := h.m
    obtain ⟨g, g1, g2⟩ : ∃ g : Nat → Nat, g i = n ∧ ∀ k, i ≠ k → g k = f k := ⟨fun k => if k = i then n else f k, by simp, fun k hk => if_neg fun z => hk z.symm⟩
    refine ⟨g, fun j o' e => ?_, fun j k o1 o2 e1 e2 ef => ?_⟩
    · rcases set_at e with ⟨rfl, hl, q⟩ | ⟨hne, q⟩
      · cases q
        rw [List.getElem?_set_self (by rw [h.len]; exact hl), g1]
        exact ⟨rfl, h0, hn⟩
      · rw [List.getElem?_set_ne hne, g2 j hne]
        exact h1 j o' q
    · rcases set_at e1 with ⟨rfl, _, q⟩ | ⟨hne, q1⟩
      · rcases set_at e2 with ⟨rfl, _, q'⟩ | ⟨hne', q2⟩
        · rfl
        · rw [g1, g2 k hne'] at ef
          have := (h1 k o2 q2).1
          rw [← ef] at this
          exact absurd q2 (hf k this o2)
      · rcases set_at e2 with ⟨rfl, _, q'⟩ | ⟨hne', q2⟩
        · rw [g1, g2 j hne] at ef
          have := (h1 j o1 q1).1
          rw [ef] at this
          exact absurd q1 (hf j this o1)
        · rw [g2 j hne, g2 k hne'] at ef
          exact h2 j k o1 o2 q1 q2 ef
/-- an own object is written -/
theorem Sat.write {S0 : Sto} {L : List Sl} {σ : Env} {S : Sto} (h : Sat S0 L σ S) {i : Nat} {o : O} (e : L[i]? = some (.m o)) : ∃ n, σ[i]? = some (some (.loc n)) ∧ S[n]? = some o ∧ ∀ o', Sat S0 (L.set i (.m o')) σ (S.set n o') := by
  obtain ⟨f, h1, h2⟩ := h.m
  obtain ⟨a, b, c⟩ := h1 i o e
  have hlen := (List.getElem?_eq_some_iff.mp c).1
  refine ⟨f i, a, c, fun o' => ⟨by simp [h.len], by rw [List.take_set_of_le b]; exact h.base, fun j y q => ?_, f, fun j o2 q => ?_, fun j k o1 o2 e1 e2 ef => ?_⟩⟩
  · rcases set_at q with ⟨rfl, hl, q⟩ | ⟨hne, q⟩
    · cases q
    · exact h.w j y q
  · rcases set_at q with ⟨rfl, hl, q⟩ | ⟨hne, q⟩
    · cases q
      exact ⟨a, b, by rw [List.getElem?_set_self hlen]⟩
    · obtain ⟨a', b', c'⟩ := h1 j o2 q
      refine ⟨a', b', ?_⟩
      rw [List.getElem?_set_ne (fun z => hne (h2 i j o o2 e q z))]
      exact c'
  · have g : ∀ (j : Nat) (o1 : O), (L.set i (Sl.m o'))[j]? = some (Sl.m o1) → ∃ o3, L[j]? = some (Sl.m o3) := fun j o1 q => by
      rcases set_at q with ⟨rfl, _, _⟩ | ⟨_, q⟩
      · exact ⟨o, e⟩
      · exact ⟨o1, q⟩
    obtain ⟨o3, g1⟩ := g j o1 e1
    obtain ⟨o4, g2⟩ := g k o2 e2
    exact h2 j k o3 o4 g1 g2 ef
/-- an own object becomes data -/
theorem Sat.kill {S0 : Sto} {L : List Sl} {σ : Env} {S : Sto} (h : Sat S0 L σ S) {i : Nat} {o : O} (e : L[i]? = some (.m o)) : ∃ n, σ[i]? = some (some (.loc n)) ∧ S[n]? = some o ∧ ∀ o' x, Sat S0 (L.set i (.w x)) (σ.set i (some x)) (S.set n o') := by
  obtain ⟨n, a, b, c⟩ := h.write e
  refine ⟨n, a, b, fun o' x => ?_⟩
  have := (c o').setW i x
  rw [List.set_set] at this
  exact this
/-- less is said -/
def Le : List Sl → List Sl → Prop
  | [], [] => True
  | a :: l, b :: l' => (b = .j ∨ a = b) ∧ Le l l'
  | _, _ => False
theorem Le.at : ∀ {L L' : List Sl}, Le L L' → L.length = L'.length ∧ ∀ (i : Nat) (x : Sl), L'[i]? = some x → x ≠ .j → L[i]? = some x
  | [], [], _ => ⟨rfl, fun i x h => by simp at h⟩
  | a :: l, b :: l', ⟨h1, h2⟩ => by
    obtain ⟨g1, g2⟩ := Le.at h2
    refine ⟨by simp [g1], fun i x h hx => ?_⟩
    cases i with
    | zero =>
      simp at h
      subst h
      rcases h1 with rfl | rfl
      · exact absurd rfl hx
      · rfl
    | succ i => simpa using g2 i x (by simpa using h) hx
  | [], _ :: _, h => h.elim
  | _ :: _, [], h => h.elim
theorem Le.refl : ∀ L : List Sl, Le L L
  | [] => trivial
  | a :: l => ⟨.inr rfl, Le.refl l⟩
theorem Sat.weak {S0 : Sto} {L L' : List Sl} {σ : Env} {S : Sto} (h : Sat S0 L σ S) (l : Le L L') : Sat S0 L' σ S := by
  obtain ⟨l1, l2⟩ := l.at
  obtain ⟨f, h1, h2⟩ := h.m
  exact ⟨by rw [h.len, l1], h.base, fun i x e => h.w i x (l2 i _ e (by intro z; cases z)), f, fun i o e => h1 i o (l2 i _ e (by intro z; cases z)), fun i j o o' e1 e2 => h2 i j o o' (l2 i _ e1 (by intro z; cases z)) (l2 j _ e2 (by intro z; cases z))⟩
@[simp] def wipeL (L : List Sl) : List Nat → List Sl
  | [] => L
  | v :: vs => (wipeL L vs).set v .j
theorem Sat.wipe {S0 : Sto} {L : List Sl} {σ : Env} {S : Sto} (h : Sat S0 L σ S) : ∀ vs, Sat S0 (wipeL L vs) (wipeD σ vs) S
  | [] => h
  | v :: vs => (Sat.wipe h vs).setJ v none
/-! ### what is said of terms -/
section
variable {α β γ δ ρ : Type}
def Ev (L : List Sl) (m : ME) (e : Enc α) (p : Option α) : Prop := ∀ S0 σ S, Sat S0 L σ S → ∀ v, p = some v → m σ S = some (.d (e v), S)
def Te (L : List Sl) (m : MT) (p : Option Bool) : Prop := ∀ S0 σ S, Sat S0 L σ S → ∀ v, p = some v → m σ S = some (v, S)
def EvL (L : List Sl) (m : MA) (e : Enc α) (p : Option (List α)) : Prop := ∀ S0 σ S, Sat S0 L σ S → ∀ vs, p = some vs → m σ S = some (vs.map fun v => .d (e v), S)
def It (L : List Sl) (m : MI) (e : Enc α) (p : Option (List α)) : Prop := ∀ S0 σ S, Sat S0 L σ S → ∀ vs, p = some vs → m σ S = some (vs.map e, S)
def EvP (L : List Sl) (m : MP) (p : Option (Option Int)) : Prop := ∀ S0 σ S, Sat S0 L σ S → ∀ v, p = some v → m σ S = some (v, S)
/-- a value, or a new own object -/
def EvS (L : List Sl) (m : ME) (p : Option α) (sl : α → Sl) : Prop := ∀ S0 σ S, Sat S0 L σ S → ∀ v, p = some v → (∃ x, sl v = .w x ∧ m σ S = some (x, S)) ∨ ∃ o, sl v = .m o ∧ m σ S = some (.loc S.length, S ++ [o])
def StN (L : List Sl) (m : MS) (p : Option α) (L1 : α → List Sl) : Prop := ∀ S0 σ S, Sat S0 L σ S → ∀ a, p = some a → ∃ σ' S', m σ S = some (.nx σ' S') ∧ Sat S0 (L1 a) σ' S'
def StF (L : List Sl) (m : MS) (e : Enc ρ) (p : Option ρ) : Prop := ∀ S0 σ S, Sat S0 L σ S → ∀ r, p = some r → ∃ S', m σ S = some (.rt (.d (e r)) S') ∧ S'.take S0.length = S0
def StR (L : List Sl) (m : MS) (e : Enc ρ) (p : Option (α ⊕ ρ)) (L1 : α → List Sl) : Prop := ∀ S0 σ S, Sat S0 L σ S →
  (∀ a, p = some (.inl a) → ∃ σ' S', m σ S = some (.nx σ' S') ∧ Sat S0 (L1 a) σ' S') ∧ ∀ r, p = some (.inr r) → ∃ S', m σ S = some (.rt (.d (e r)) S') ∧ S'.take S0.length = S0
def Tg (g : MG) (e : Enc α) (bnd : List Sl → α → List Sl) : Prop := ∀ S0 L σ S, Sat S0 L σ S → ∀ a, ∃ σ1, g (.d (e a)) σ = some σ1 ∧ Sat S0 (bnd L a) σ1 S
abbrev G2T (g : G2) (e : Enc α) (f : Enc β) (h : Enc γ) (o : α → β → Option γ) : Prop := ∀ S a b c, o a b = some c → g S (.d (e a)) (.d (f b)) = some (.d (h c))
abbrev G1T (g : Sto → W → Option W) (e : Enc α) (f : Enc β) (o : α → Option β) : Prop := ∀ S a b, o a = some b → g S (.d (e a)) = some (.d (f b))
abbrev FnT0 (F : Fn) (e : Enc ρ) (f : Option ρ) : Prop := ∀ S r, f = some r → F [] S = some (.d (e r), S)
abbrev FnT1 (F : Fn) (e1 : Enc α) (e : Enc ρ) (f : α → Option ρ) : Prop := ∀ S a r, f a = some r → F [.d (e1 a)] S = some (.d (e r), S)
abbrev FnT2 (F : Fn) (e1 : Enc α) (e2 : Enc β) (e : Enc ρ) (f : α → β → Option ρ) : Prop := ∀ S a b r, f a b = some r → F [.d (e1 a), .d (e2 b)] S = some (.d (e r), S)
abbrev FnT3 (F : Fn) (e1 : Enc α) (e2 : Enc β) (e3 : Enc γ) (e : Enc ρ) (f : α → β → γ → Option ρ) : Prop := ∀ S a b c r, f a b c = some r → F [.d (e1 a), .d (e2 b), .d (e3 c)] S = some (.d (e r), S)
abbrev FnT4 (F : Fn) (e1 : Enc α) (e2 : Enc β) (e3 : Enc γ) (e4 : Enc δ) (e : Enc ρ) (f : α → β → γ → δ → Option ρ) : Prop := ∀ S a b c d r, f a b c d = some r → F [.d (e1 a), .d (e2 b), .d (e3 c), .d (e4 d)] S = some (.d (e r), S)
/-! ### what plain terms are made of -/
@[simp] def pB1 (f : α → Option β) (p : Option α) : Option β := p.bind f
@[simp] def pB2 (f : α → β → Option γ) (p : Option α) (q : Option β) : Option γ := p.bind fun a => q.bind fun b => f a b
@[simp] def pB3 (f : α → β → γ → Option δ) (p : Option α) (q : Option β) (r : Option γ) : Option δ := p.bind fun a => q.bind fun b => r.bind fun c => f a b c
@[simp] def pB4 {ε : Type} (f : α → β → γ → δ → Option ε) (p : Option α) (q : Option β) (r : Option γ) (s : Option δ) : Option ε := p.bind fun a => q.bind fun b => r.bind fun c => s.bind fun d => f a b c d
@[simp] def pIf (t : Option Bool) (a b : Option α) : Option α := t.bind fun c => if c = true then a else b
@[simp] def pAnd (a b : Option Bool) : Option Bool := a.bind fun c => if c = true then b else some false
@[simp] def pOr (a b : Option Bool) : Option Bool := a.bind fun c => if c = true then some true else b
@[simp] def pNot (a : Option Bool) : Option Bool := a.map fun c => !c
def pComp (t : α → Option Bool) (m : α → Option β) : List α → Option (List β)
  | [] => some []
  | x :: xs => (t x).bind fun c => if c = true then (m x).bind fun y => (pComp t m xs).map fun ys => y :: ys else pComp t m xs
def pFor (b : α → β → Option α) : List β → α → Option α
  | [], a => some a
  | x :: xs, a => (b a x).bind fun a' => pFor b xs a'
def pForR (b : α → β → Option (α ⊕ ρ)) : List β → α → Option (α ⊕ ρ)
  | [], a => some (.inl a)
  | x :: xs, a => (b a x).bind fun r => match r with
    | .inl a' => pForR b xs a'
    | .inr r => some (.inr r)
def pWhile (c : α → Option Bool) (b : α → Option α) : Nat → α → Option α
  | 0, _ => none
  | n + 1, a => (c a).bind fun k => if k = true then (b a).bind fun a' => pWhile c b n a' else some a
@[simp] def pSeqR {α' : Type} (p : Option (α ⊕ ρ)) (q : α → Option (α' ⊕ ρ)) : Option (α' ⊕ ρ) := p.bind fun r => match r with
  | .inl a => q a
  | .inr r => some (.inr r)
@[simp] def pSeqF (p : Option (α ⊕ ρ)) (q : α → Option ρ) : Option ρ := p.bind fun r => match r with
  | .inl a => q a
  | .inr r => some r
def okLen (n : Nat) : Bool := Nat.ble n 16777216
def pFit (xs : List α) : Option (List α) := if okLen xs.length = true then some xs else none
def pRange (lo hi : Int) : Option (List Int) := if decide (-4611686018427387904 ≤ lo ∧ lo < 4611686018427387904 ∧ -4611686018427387904 ≤ hi ∧ hi < 4611686018427387904) = true then some (rangeI lo (hi - lo).toNat) else none
where rangeI (lo : Int) : Nat → List Int
  | 0 => []
  | n + 1 => lo :: rangeI (lo + 1) n
def pMul (a b : Int) : Option Int := if decide (-18446744073709551616 < a ∧ a < 18446744073709551616) || decide (-18446744073709551616 < b ∧ b < 18446744073709551616) then some (a * b) else none
def pDiv (a b : Int) : Option Int := if decide (0 < b ∧ b < 18446744073709551616) = true then some (a / b) else none
def pMod (a b : Int) : Option Int := if decide (0 < b) = true then some (a % b) else none
def pPow (a b : Int) : Option Int := if decide (0 ≤ b ∧ b ≤ 1000000 ∧ a.natAbs < 18446744073709551616) = true then some (a ^ b.toNat) else none
def pApp (xs ys : List α) : Option (List α) := pFit (xs ++ ys)
def pIx (xs : List α) (i : Int) : Option α := atI xs i
def pCut (xs : List α) (lo hi : Option Int) : Option (List α) := some ((xs.drop (HT.sIx xs.length 0 lo)).take (HT.sIx xs.length xs.length hi - HT.sIx xs.length 0 lo))
def pMaxL : List Int → Option Int
  | [] => none
  | m :: ms => some (maxL m ms)
def pMinL : List Int → Option Int
  | [] => none
  | m :: ms => some (minL m ms)
def enumI (lo : Int) : List α → List (Int × α)
  | [] => []
  | x :: xs => (lo, x) :: enumI (lo + 1) xs
end
end DL

set_option Elab.async false
set_option linter.all false
set_option maxRecDepth 100000
set_option autoImplicit false
/-! The typed layer, its rules. -/
noncomputable section
namespace DL
open PySem PySem.Spec PyProof.Rows L2
section
variable {α β γ δ ρ : Type} {L : List Sl} {e : Enc α} {f : Enc β} {h : Enc γ} {o : Enc δ} {er : Enc ρ}
theorem bs {α β : Type} {x : Option α} {g : α → Option β} {b : β} (h : x.bind g = some b) : ∃ a, x = some a ∧ g a = some b := Option.bind_eq_some_iff.mp h
/-! ### expressions -/
theorem Ev.var (i : Nat) {v : α} (hL : L[i]? = some (.w (.d (e v))) := by rfl) : Ev L (mVar i) e (some v) := fun S0 σ S s w hw => by
  cases hw
  simp [s.w i _ hL]
theorem Ev.c {v : α} {w : W} (hw : w = .d (e v) := by rfl) : Ev L (mC w) e (some v) := fun S0 σ S s v' hv => by
  cases hv
  subst hw
  rfl
theorem Ev.opt {m : ME} {p : Option α} (h1 : Ev L m e p) : Ev L m (eO e) (p.map some) := fun S0 σ S s v hv => by
  rw [Option.map_eq_some_iff] at hv
  obtain ⟨a, h2, rfl⟩ := hv
  exact h1 S0 σ S s a h2
theorem Ev.none : Ev L mNone (eO e) (some none) := fun S0 σ S s v hv => by cases hv; rfl
theorem Ev.bin {g : G2} {op : α → β → Option γ} {m1 m2 : ME} {p1 : Option α} {p2 : Option β} (hg : G2T g e f h op) (h1 : Ev L m1 e p1) (h2 : Ev L m2 f p2) : Ev L (mBin g m1 m2) h (pB2 op p1 p2) := fun S0 σ S s v hv => by
  obtain ⟨a, ha, hv⟩ := bs hv
  obtain ⟨b, hb, hv⟩ := bs hv
  simp [h1 S0 σ S s a ha, h2 S0 σ S s b hb, hg S a b v hv]
theorem Ev.un {g : G1} {op : α → Option β} {m1 : ME} {p1 : Option α} (hg : G1T g e f op) (h1 : Ev L m1 e p1) : Ev L (mUn g m1) f (pB1 op p1) := fun S0 σ S s v hv => by
  obtain ⟨a, ha, hv⟩ := bs hv
  simp [h1 S0 σ S s a ha, hg S a v hv]
theorem Ev.chain {g g' : G2} {op : α → β → Option Bool} {op' : β → γ → Option Bool} {m1 m2 m3 : ME} {p1 : Option α} {p2 : Option β} {p3 : Option γ} (hg : G2T g e f eB op) (hg' : G2T g' f h eB op') (h1 : Ev L m1 e p1) (h2 : Ev L m2 f p2) (h3 : Ev L m3 h p3) :
    Ev L (mChain g g' m1 m2 m3) eB (p1.bind fun a => p2.bind fun b => (op a b).bind fun k => if k = true then p3.bind fun c => op' b c else some false) := fun S0 σ S s v hv => by
  obtain ⟨a, ha, hv⟩ := bs hv
  obtain ⟨b, hb, hv⟩ := bs hv
  obtain ⟨k, hk, hv⟩ := bs hv
  cases k with
  | true =>
    obtain ⟨c, hc, hv⟩ := bs (by simpa using hv)
    simp [h1 S0 σ S s a ha, h2 S0 σ S s b hb, hg S a b _ hk, h3 S0 σ S s c hc, hg' S b c v hv]
  | false =>
    have : v = false := by simpa using hv.symm
    subst this
    simp [h1 S0 σ S s a ha, h2 S0 σ S s b hb, hg S a b _ hk]
theorem Ev.and {m1 m2 : ME} {p1 p2 : Option Bool} (h1 : Ev L m1 eB p1) (h2 : Ev L m2 eB p2) : Ev L (mAnd m1 m2) eB (pAnd p1 p2) := fun S0 σ S s v hv => by
  obtain ⟨a, ha, hv⟩ := bs hv
  cases a with
  | true => simp [h1 S0 σ S s true ha, h2 S0 σ S s v (by simpa using hv)]
  | false =>
    have : v = false := by simpa using hv.symm
    subst this
    simp [h1 S0 σ S s false ha]
theorem Ev.or {m1 m2 : ME} {p1 p2 : Option Bool} (h1 : Ev L m1 eB p1) (h2 : Ev L m2 eB p2) : Ev L (mOr m1 m2) eB (pOr p1 p2) := fun S0 σ S s v hv => by
  obtain ⟨a, ha, hv⟩ := bs hv
  cases a with
  | true =>
    have : v = true := by simpa using hv.symm
    subst this
    simp [h1 S0 σ S s true ha]
  | false => simp [h1 S0 σ S s false ha, h2 S0 σ S s v (by simpa using hv)]
theorem Ev.not {m1 : ME} {p1 : Option Bool} (h1 : Ev L m1 eB p1) : Ev L (mNot m1) eB (pNot p1) := fun S0 σ S s v hv => by
  have hv : p1.map (fun c => !c) = some v := hv
  rw [Option.map_eq_some_iff] at hv
  obtain ⟨a, ha, rfl⟩ := hv
  simp [h1 S0 σ S s a ha]
theorem Ev.ite {t : MT} {m1 m2 : ME} {pt : Option Bool} {p1 p2 : Option α} (ht : Te L t pt) (h1 : Ev L m1 e p1) (h2 : Ev L m2 e p2) : Ev L (mIf t m1 m2) e (pIf pt p1 p2) := fun S0 σ S s v hv => by
  obtain ⟨a, ha, hv⟩ := bs hv
  cases a with
  | true => simp [ht S0 σ S s true ha, h1 S0 σ S s v (by simpa using hv)]
  | false => simp [ht S0 σ S s false ha, h2 S0 σ S s v (by simpa using hv)]
theorem Te.b {m1 : ME} {p1 : Option Bool} (h1 : Ev L m1 eB p1) : Te L (mB m1) p1 := fun S0 σ S s v hv => by simp [h1 S0 σ S s v hv]
theorem Te.and {m1 m2 : MT} {p1 p2 : Option Bool} (h1 : Te L m1 p1) (h2 : Te L m2 p2) : Te L (mAndT m1 m2) (pAnd p1 p2) := fun S0 σ S s v hv => by
  obtain ⟨a, ha, hv⟩ := bs hv
  cases a with
  | true => simp [h1 S0 σ S s true ha, h2 S0 σ S s v (by simpa using hv)]
  | false =>
    have : v = false := by simpa using hv.symm
    subst this
    simp [h1 S0 σ S s false ha]
theorem Te.or {m1 m2 : MT} {p1 p2 : Option Bool} (h1 : Te L m1 p1) (h2 : Te L m2 p2) : Te L (mOrT m1 m2) (pOr p1 p2) := fun S0 σ S s v hv => by
  obtain ⟨a, ha, hv⟩ := bs hv
  cases a with
  | true =>
    have : v = true := by simpa using hv.symm
    subst this
    simp [h1 S0 σ S s true ha]
  | false => simp [h1 S0 σ S s false ha, h2 S0 σ S s v (by simpa using hv)]
theorem Te.not {m1 : MT} {p1 : Option Bool} (h1 : Te L m1 p1) : Te L (mNotT m1) (pNot p1) := fun S0 σ S s v hv => by
  have hv : p1.map (fun c => !c) = some v := hv
  rw [Option.map_eq_some_iff] at hv
  obtain ⟨a, ha, rfl⟩ := hv
  simp [h1 S0 σ S s a ha]
theorem Te.yes : Te L mYes (some true) := fun S0 σ S s v hv => by cases hv; rfl
/-! displays -/
theorem EvL.nil : EvL L mNil e (some []) := fun S0 σ S s v hv => by cases hv; rfl
theorem EvL.cons {m1 : ME} {m : MA} {p1 : Option α} {p : Option (List α)} (h1 : Ev L m1 e p1) (h2 : EvL L m e p) : EvL L (mCons m1 m) e (pB2 (fun x xs => some (x :: xs)) p1 p) := fun S0 σ S s v hv => by
  obtain ⟨a, ha, hv⟩ := bs hv
  obtain ⟨b, hb, hv⟩ := bs hv
  cases hv
  simp [h1 S0 σ S s a ha, h2 S0 σ S s b hb]
theorem asDs_map (e : Enc α) : ∀ vs : List α, asDs (vs.map fun v => W.d (e v)) = some (vs.map e)
  | [] => rfl
  | v :: vs => by simp [asDs_map e vs]
theorem okLen_iff {n : Nat} : okLen n = true ↔ n ≤ 16777216 := by unfold okLen; simp
theorem fits_of {n : Nat} (h : okLen n = true) : fits n = true := decide_eq_true (okLen_iff.mp h)
theorem pFit_some {xs ys : List α} (h : pFit xs = some ys) : ys = xs ∧ fits xs.length = true ∧ xs.length ≤ 16777216 := by
  unfold pFit at h
  split at h
  · rename_i q
    cases h
    exact ⟨rfl, fits_of q, okLen_iff.mp q⟩
  · cases h
theorem pFit_of {xs : List α} (h : xs.length ≤ 16777216) : pFit xs = some xs := by unfold pFit; rw [if_pos (okLen_iff.mpr h)]
theorem Ev.vtup {m : MA} {p : Option (List α)} (h1 : EvL L m e p) : Ev L (mTup m) (eV e) (pB1 pFit p) := fun S0 σ S s v hv => by
  obtain ⟨a, ha, hv⟩ := bs hv
  obtain ⟨rfl, hf, _⟩ := pFit_some hv
  simp [h1 S0 σ S s _ ha, asDs_map, hf]
theorem Ev.lst {m : MA} {p : Option (List α)} (h1 : EvL L m e p) : Ev L (mLst m) (eL e) (pB1 pFit p) := fun S0 σ S s v hv => by
  obtain ⟨a, ha, hv⟩ := bs hv
  obtain ⟨rfl, hf, _⟩ := pFit_some hv
  simp [h1 S0 σ S s _ ha, asDs_map, hf]
theorem Ev.pair {m1 m2 : ME} {p1 : Option α} {p2 : Option β} (h1 : Ev L m1 e p1) (h2 : Ev L m2 f p2) : Ev L (mTup (mCons m1 (mCons m2 mNil))) (eP e f) (pB2 (fun a b => some (a, b)) p1 p2) := fun S0 σ S s v hv => by
  obtain ⟨a, ha, hv⟩ := bs hv
  obtain ⟨b, hb, hv⟩ := bs hv
  cases hv
  have : fits 2 = true := by decide
  simp [h1 S0 σ S s a ha, h2 S0 σ S s b hb, this]
theorem Ev.trip {m1 m2 m3 : ME} {p1 : Option α} {p2 : Option β} {p3 : Option γ} (h1 : Ev L m1 e p1) (h2 : Ev L m2 f p2) (h3 : Ev L m3 h p3) : Ev L (mTup (mCons m1 (mCons m2 (mCons m3 mNil)))) (eP3 e f h) (pB3 (fun a b c => some (a, b, c)) p1 p2 p3) := fun S0 σ S s v hv => by
  obtain ⟨a, ha, hv⟩ := bs hv
  obtain ⟨b, hb, hv⟩ := bs hv
  obtain ⟨c, hc, hv⟩ := bs hv
  cases hv
  have : fits 3 = true := by decide
  simp [h1 S0 σ S s a ha, h2 S0 σ S s b hb, h3 S0 σ S s c hc, this]
/-! calls -/
theorem Ev.c1 {g : Sto → W → Option W} {op : α → Option β} {m : ME} {p : Option α} (hg : G1T g e f op) (h1 : Ev L m e p) : Ev L (mCall (pure1 g) (mCons m mNil)) f (pB1 op p) := fun S0 σ S s v hv => by
  obtain ⟨a, ha, hv⟩ := bs hv
  simp [h1 S0 σ S s a ha, hg S a v hv]
theorem Ev.c2 {g : Sto → W → W → Option W} {op : α → β → Option γ} {m1 m2 : ME} {p1 : Option α} {p2 : Option β} (hg : G2T g e f h op) (h1 : Ev L m1 e p1) (h2 : Ev L m2 f p2) : Ev L (mCall (pure2 g) (mCons m1 (mCons m2 mNil))) h (pB2 op p1 p2) := fun S0 σ S s v hv => by
  obtain ⟨a, ha, hv⟩ := bs hv
  obtain ⟨b, hb, hv⟩ := bs hv
  simp [h1 S0 σ S s a ha, h2 S0 σ S s b hb, hg S a b v hv]
theorem Ev.f0 {F : Fn} {q : Option ρ} (hF : FnT0 F er q) : Ev L (mCallF 0 F mNil) er q := fun S0 σ S s v hv => by simp [hF S v hv]
theorem Ev.f1 {F : Fn} {q : α → Option ρ} {m : ME} {p : Option α} (hF : FnT1 F e er q) (h1 : Ev L m e p) : Ev L (mCallF 1 F (mCons m mNil)) er (pB1 q p) := fun S0 σ S s v hv => by
  obtain ⟨a, ha, hv⟩ := bs hv
  simp [h1 S0 σ S s a ha, hF S a v hv]
theorem Ev.f2 {F : Fn} {q : α → β → Option ρ} {m1 m2 : ME} {p1 : Option α} {p2 : Option β} (hF : FnT2 F e f er q) (h1 : Ev L m1 e p1) (h2 : Ev L m2 f p2) : Ev L (mCallF 2 F (mCons m1 (mCons m2 mNil))) er (pB2 q p1 p2) := fun S0 σ S s v hv => by
  obtain ⟨a, ha, hv⟩ := bs hv
  obtain ⟨b, hb, hv⟩ := bs hv
  simp [h1 S0 σ S s a ha, h2 S0 σ S s b hb, hF S a b v hv]
theorem Ev.f3 {F : Fn} {q : α → β → γ → Option ρ} {m1 m2 m3 : ME} {p1 : Option α} {p2 : Option β} {p3 : Option γ} (hF : FnT3 F e f h er q) (h1 : Ev L m1 e p1) (h2 : Ev L m2 f p2) (h3 : Ev L m3 h p3) : Ev L (mCallF 3 F (mCons m1 (mCons m2 (mCons m3 mNil)))) er (pB3 q p1 p2 p3) := fun S0 σ S s v hv => by
  obtain ⟨a, ha, hv⟩ := bs hv
  obtain ⟨b, hb, hv⟩ := bs hv
  obtain ⟨c, hc, hv⟩ := bs hv
  simp [h1 S0 σ S s a ha, h2 S0 σ S s b hb, h3 S0 σ S s c hc, hF S a b c v hv]
theorem Ev.f4 {F : Fn} {q : α → β → γ → δ → Option ρ} {m1 m2 m3 m4 : ME} {p1 : Option α} {p2 : Option β} {p3 : Option γ} {p4 : Option δ} (hF : FnT4 F e f h o er q) (h1 : Ev L m1 e p1) (h2 : Ev L m2 f p2) (h3 : Ev L m3 h p3) (h4 : Ev L m4 o p4) : Ev L (mCallF 4 F (mCons m1 (mCons m2 (mCons m3 (mCons m4 mNil))))) er (pB4 q p1 p2 p3 p4) := fun S0 σ S s v hv => by
  obtain ⟨a, ha, hv⟩ := bs hv
  obtain ⟨b, hb, hv⟩ := bs hv
  obtain ⟨c, hc, hv⟩ := bs hv
  obtain ⟨d, hd, hv⟩ := bs hv
  simp [h1 S0 σ S s a ha, h2 S0 σ S s b hb, h3 S0 σ S s c hc, h4 S0 σ S s d hd, hF S a b c d v hv]
/-! slices -/
theorem EvP.none : EvP L mNoP (some Option.none) := fun S0 σ S s v hv => by cases hv; rfl
theorem EvP.some {m : ME} {p : Option Int} (h1 : Ev L m eI p) : EvP L (mP m) (p.map Option.some) := fun S0 σ S s v hv => by
  rw [Option.map_eq_some_iff] at hv
  obtain ⟨a, ha, rfl⟩ := hv
  simp [h1 S0 σ S s a ha]
theorem cutD_map (e : Enc α) (xs : List α) (lo hi : Option Int) {ys : List α} (hc : pCut xs lo hi = Option.some ys) : cutD (xs.map e) lo hi = ys.map e := by
  cases hc
  simp [cutD, List.map_take, List.map_drop]
theorem Ev.cutL {m : ME} {ml mh : MP} {p : Option (List α)} {pl ph : Option (Option Int)} (h1 : Ev L m (eL e) p) (h2 : EvP L ml pl) (h3 : EvP L mh ph) : Ev L (mCut m ml mh) (eL e) (pB3 pCut p pl ph) := fun S0 σ S s v hv => by
  obtain ⟨a, ha, hv⟩ := bs hv
  obtain ⟨b, hb, hv⟩ := bs hv
  obtain ⟨c, hc, hv⟩ := bs hv
  simp [h1 S0 σ S s a ha, h2 S0 σ S s b hb, h3 S0 σ S s c hc, vCut, cutD_map e a b c hv]
theorem Ev.cutV {m : ME} {ml mh : MP} {p : Option (List α)} {pl ph : Option (Option Int)} (h1 : Ev L m (eV e) p) (h2 : EvP L ml pl) (h3 : EvP L mh ph) : Ev L (mCut m ml mh) (eV e) (pB3 pCut p pl ph) := fun S0 σ S s v hv => by
  obtain ⟨a, ha, hv⟩ := bs hv
  obtain ⟨b, hb, hv⟩ := bs hv
  obtain ⟨c, hc, hv⟩ := bs hv
  simp [h1 S0 σ S s a ha, h2 S0 σ S s b hb, h3 S0 σ S s c hc, vCut, cutD_map e a b c hv]
theorem Ev.rev {m : ME} {p : Option (List α)} (h1 : Ev L m (eL e) p) : Ev L (mRev m) (eL e) (p.map List.reverse) := fun S0 σ S s v hv => by
  rw [Option.map_eq_some_iff] at hv
  obtain ⟨a, ha, rfl⟩ := hv
  simp [h1 S0 σ S s a ha]
/-! subscripts -/
theorem atI_map {α β : Type} (e : α → β) (xs : List α) (i : Int) : atI (xs.map e) i = (atI xs i).map e := by
  unfold atI
  rw [List.length_map]
  cases ixN xs.length i <;> simp
theorem Ev.fst {m : ME} {p : Option (α × β)} (h1 : Ev L m (eP e f) p) : Ev L (mBin vIx m (mInt 0)) e (p.map Prod.fst) := fun S0 σ S s v hv => by
  rw [Option.map_eq_some_iff] at hv
  obtain ⟨a, ha, rfl⟩ := hv
  simp [h1 S0 σ S s a ha, atI, ixN]
theorem Ev.snd {m : ME} {p : Option (α × β)} (h1 : Ev L m (eP e f) p) : Ev L (mBin vIx m (mInt 1)) f (p.map Prod.snd) := fun S0 σ S s v hv => by
  rw [Option.map_eq_some_iff] at hv
  obtain ⟨a, ha, rfl⟩ := hv
  simp [h1 S0 σ S s a ha, atI, ixN]
/-! targets -/
theorem Tg.n (i : Nat) : Tg (gN i) e (fun L a => L.set i (.w (.d (e a)))) := fun S0 L σ S s a => ⟨_, rfl, s.setW i _⟩
theorem Tg.p2 (i j : Nat) : Tg (gTup 2 (gCons (gN i) (gCons (gN j) gNil))) (eP e f) (fun L a => (L.set i (.w (.d (e a.1)))).set j (.w (.d (f a.2)))) := fun S0 L σ S s a => ⟨_, by simp, (s.setW i _).setW j _⟩
theorem Tg.p3 (i j k : Nat) : Tg (gTup 3 (gCons (gN i) (gCons (gN j) (gCons (gN k) gNil)))) (eP3 e f h) (fun L a => ((L.set i (.w (.d (e a.1)))).set j (.w (.d (f a.2.1)))).set k (.w (.d (h a.2.2)))) := fun S0 L σ S s a => ⟨_, by simp, ((s.setW i _).setW j _).setW k _⟩
/-- a pair whose second is a pair -/
theorem Tg.p12 (i j k : Nat) : Tg (gTup 2 (gCons (gN i) (gCons (gTup 2 (gCons (gN j) (gCons (gN k) gNil))) gNil))) (eP e (eP f h)) (fun L a => ((L.set i (.w (.d (e a.1)))).set j (.w (.d (f a.2.1)))).set k (.w (.d (h a.2.2)))) := fun S0 L σ S s a => ⟨_, by simp, ((s.setW i _).setW j _).setW k _⟩
/-! what is walked -/
theorem rangeD_I : ∀ (n : Nat) (lo : Int), rangeD lo n = (pRange.rangeI lo n).map eI
  | 0, lo => rfl
  | n + 1, lo => by simp [rangeD, pRange.rangeI, rangeD_I n (lo + 1)]
theorem pRange_some {lo hi : Int} {xs : List Int} (hv : pRange lo hi = some xs) : big62 lo = true ∧ big62 hi = true ∧ xs = pRange.rangeI lo (hi - lo).toNat := by
  unfold pRange at hv
  split at hv
  · rename_i q
    have q := of_decide_eq_true q
    cases hv
    exact ⟨big62_of q.1 q.2.1, big62_of q.2.2.1 q.2.2.2, rfl⟩
  · cases hv
theorem It.r1 {m : ME} {p : Option Int} (h1 : Ev L m eI p) : It L (iR1 (mCons m mNil)) eI (pB1 (pRange 0) p) := fun S0 σ S s v hv => by
  obtain ⟨a, ha, hv⟩ := bs hv
  obtain ⟨_, q, rfl⟩ := pRange_some hv
  simp [h1 S0 σ S s a ha, q, rangeD_I]
theorem It.r2 {m1 m2 : ME} {p1 p2 : Option Int} (h1 : Ev L m1 eI p1) (h2 : Ev L m2 eI p2) : It L (iR2 (mCons m1 (mCons m2 mNil))) eI (pB2 pRange p1 p2) := fun S0 σ S s v hv => by
  obtain ⟨a, ha, hv⟩ := bs hv
  obtain ⟨b, hb, hv⟩ := bs hv
  obtain ⟨q1, q2, rfl⟩ := pRange_some hv
  simp [h1 S0 σ S s a ha, h2 S0 σ S s b hb, q1, q2, rangeD_I]
theorem It.l {m : ME} {p : Option (List α)} (h1 : Ev L m (eL e) p) : It L (iL m) e p := fun S0 σ S s v hv => by simp [h1 S0 σ S s v hv]
theorem It.t {m : ME} {p : Option (List α)} (h1 : Ev L m (eV e) p) : It L (iT m) e p := fun S0 σ S s v hv => by simp [h1 S0 σ S s v hv]
theorem It.sl {m : ME} {p : Option (List α)} (h1 : Ev L m (eL e) p) : It L (iS m) e p := fun S0 σ S s v hv => by simp [h1 S0 σ S s v hv, asS]
theorem It.st {m : ME} {p : Option (List α)} (h1 : Ev L m (eV e) p) : It L (iS m) e p := fun S0 σ S s v hv => by simp [h1 S0 σ S s v hv, asS]
theorem enumD_map (e : Enc α) : ∀ (xs : List α) (lo : Nat), enumD lo (xs.map e) = (enumI (lo : Int) xs).map (eP eI e)
  | [], lo => rfl
  | x :: xs, lo => by
    have := enumD_map e xs (lo + 1)
    simp only [List.map_cons, enumD, enumI, this]
    simp
theorem It.enum {m : ME} {p : Option (List α)} (h1 : Ev L m (eL e) p) : It L (iEnumD (mCons m mNil)) (eP eI e) (p.map (enumI 0)) := fun S0 σ S s v hv => by
  rw [Option.map_eq_some_iff] at hv
  obtain ⟨a, ha, rfl⟩ := hv
  have := enumD_map e a 0
  simp [iEnumD, h1 S0 σ S s a ha, this]
theorem It.zipL {m1 m2 : ME} {p1 : Option (List α)} {p2 : Option (List β)} (h1 : Ev L m1 (eL e) p1) (h2 : Ev L m2 (eL f) p2) : It L (iZipD (mCons m1 (mCons m2 mNil))) (eP e f) (pB2 (fun a b => some (a.zip b)) p1 p2) := fun S0 σ S s v hv => by
  obtain ⟨a, ha, hv⟩ := bs hv
  obtain ⟨b, hb, hv⟩ := bs hv
  cases hv
  simp [iZipD, h1 S0 σ S s a ha, h2 S0 σ S s b hb, zipD_map]
theorem It.zipV {m1 m2 : ME} {p1 : Option (List α)} {p2 : Option (List β)} (h1 : Ev L m1 (eV e) p1) (h2 : Ev L m2 (eV f) p2) : It L (iZipD (mCons m1 (mCons m2 mNil))) (eP e f) (pB2 (fun a b => some (a.zip b)) p1 p2) := fun S0 σ S s v hv => by
  obtain ⟨a, ha, hv⟩ := bs hv
  obtain ⟨b, hb, hv⟩ := bs hv
  cases hv
  simp [iZipD, h1 S0 σ S s a ha, h2 S0 σ S s b hb, zipD_map]
/-! comprehensions -/
theorem pComp_len {t : α → Option Bool} {m : α → Option β} : ∀ {xs : List α} {ys : List β}, pComp t m xs = some ys → ys.length ≤ xs.length
  | [], ys, hv => by cases hv; simp
  | x :: xs, ys, hv => by
    obtain ⟨c, _, hv⟩ := bs hv
    cases c with
    | true =>
      obtain ⟨y, _, hv⟩ := bs (by simpa using hv)
      rw [Option.map_eq_some_iff] at hv
      obtain ⟨zs, h1, rfl⟩ := hv
      have := pComp_len h1
      simp; omega
    | false =>
      have := pComp_len (t := t) (m := m) (xs := xs) (ys := ys) (by simpa using hv)
      simp; omega
theorem comp_go {S0 : Sto} {g : MG} {t : MT} {m : ME} {bnd : List Sl → α → List Sl} {pt : α → Option Bool} {pm : α → Option β} {L' : List Sl} (hg : Tg g e bnd) (ht : ∀ a, Te (bnd L' a) t (pt a)) (hm : ∀ a, Ev (bnd L' a) m f (pm a)) {σ : Env} {S : Sto} (s : Sat S0 L' σ S) :
    ∀ (xs : List α) (ys : List β) (acc : List D), pComp pt pm xs = some ys → acc.length + xs.length ≤ 16777216 → compM g t m (xs.map e) σ S acc = some (acc ++ ys.map f, S)
  | [], ys, acc, hv, hl => by cases hv; simp
  | x :: xs, ys, acc, hv, hl => by
    obtain ⟨σ1, g1, g2⟩ := hg S0 L' σ S s x
    obtain ⟨c, hc, hv⟩ := bs hv
    simp only [List.length_cons] at hl
    have t1 := ht x S0 σ1 S g2 c hc
    cases c with
    | true =>
      obtain ⟨y, hy, hv⟩ := bs (by simpa using hv)
      rw [Option.map_eq_some_iff] at hv
      obtain ⟨zs, h1, rfl⟩ := hv
      have m1 := hm x S0 σ1 S g2 y hy
      have hf : fits (acc.length + 1) = true := decide_eq_true (by omega)
      have ih := comp_go hg ht hm s xs zs (acc ++ [f y]) h1 (by simp; omega)
      simp [g1, t1, m1, hf, ih]
    | false =>
      have ih := comp_go hg ht hm s xs ys acc (by simpa using hv) (by omega)
      simp [g1, t1, ih]
theorem Ev.comp {mi : MI} {g : MG} {t : MT} {m : ME} {vs : List Nat} {bnd : List Sl → α → List Sl} {p : Option (List α)} {pt : α → Option Bool} {pm : α → Option β} (hi : It L mi e p) (hg : Tg g e bnd) (ht : ∀ a, Te (bnd (wipeL L vs) a) t (pt a)) (hm : ∀ a, Ev (bnd (wipeL L vs) a) m f (pm a)) :
    Ev L (mComp mi g t m vs) (eL f) (p.bind fun xs => (pFit xs).bind fun xs => pComp pt pm xs) := fun S0 σ S s v hv => by
  obtain ⟨a, ha, hv⟩ := bs hv
  obtain ⟨a', ha', hv2⟩ := bs (show (pFit a).bind (pComp pt pm) = some v from hv)
  clear hv
  obtain ⟨rfl, _, hl⟩ := pFit_some ha'
  have := comp_go hg ht hm (s.wipe vs) a' v [] hv2 (by simpa using hl)
  simp [hi S0 σ S s a' ha, this]
end
end DL

set_option Elab.async false
set_option linter.all false
set_option maxRecDepth 100000
set_option autoImplicit false
/-! The typed layer: statements, defs. -/
noncomputable section
namespace DL
open PySem PySem.Spec PyProof.Rows L2
section
variable {α β γ δ ρ : Type} {L : List Sl} {e : Enc α} {f : Enc β} {h : Enc γ} {o : Enc δ} {er : Enc ρ}
/-! ### what is given to a name -/
theorem Ev.s {m : ME} {p : Option α} (h1 : Ev L m e p) : EvS L m p (fun a => .w (.d (e a))) := fun S0 σ S s v hv => .inl ⟨_, rfl, h1 S0 σ S s v hv⟩
theorem EvS.new {m : MA} {p : Option (List α)} (h1 : EvL L m e p) : EvS L (mNew m) (pB1 pFit p) (fun a => .m (.lst (a.map e))) := fun S0 σ S s v hv => by
  obtain ⟨a, ha, hv2⟩ := bs hv
  clear hv
  obtain ⟨rfl, hf, _⟩ := pFit_some hv2
  exact .inr ⟨_, rfl, by simp [h1 S0 σ S s _ ha, asDs_map, hf]⟩
theorem EvS.newK : EvS L mNewK (some ()) (fun _ => .m (.dK [])) := fun S0 σ S s v hv => .inr ⟨_, rfl, rfl⟩
theorem EvS.newT : EvS L mNewT (some ()) (fun _ => .m (.dT [])) := fun S0 σ S s v hv => .inr ⟨_, rfl, rfl⟩
theorem EvS.listL {m : ME} {p : Option (List α)} (h1 : Ev L m (eL e) p) : EvS L (mCall gListN (mCons m mNil)) p (fun a => .m (.lst (a.map e))) := fun S0 σ S s v hv => .inr ⟨_, rfl, by simp [h1 S0 σ S s v hv, gListN]⟩
theorem EvS.listV {m : ME} {p : Option (List α)} (h1 : Ev L m (eV e) p) : EvS L (mCall gListN (mCons m mNil)) p (fun a => .m (.lst (a.map e))) := fun S0 σ S s v hv => .inr ⟨_, rfl, by simp [h1 S0 σ S s v hv, gListN]⟩
theorem Sat.locs {S0 : Sto} {σ : Env} {S : Sto} (s : Sat S0 L σ S) {j : Nat} {n : Nat} (hj : σ[j]? = some (some (.loc n))) (hn : S.length ≤ n) (o' : O) : L[j]? ≠ some (.m o') := fun q => by
  obtain ⟨g, g1, _⟩ := s.m
  obtain ⟨a, _, c⟩ := g1 j o' q
  rw [a] at hj
  cases hj
  have := (List.getElem?_eq_some_iff.mp c).1
  omega
theorem StN.asg (i : Nat) {m : ME} {p : Option α} {sl : α → Sl} (h1 : EvS L m p sl) : StN L (mAsg i m) p (fun a => L.set i (sl a)) := fun S0 σ S s a ha => by
  rcases h1 S0 σ S s a ha with ⟨x, h2, h3⟩ | ⟨x, h2, h3⟩
  · refine ⟨σ.set i (some x), S, by simp [h3], ?_⟩
    show Sat S0 (L.set i (sl a)) _ _
    rw [h2]; exact s.setW i x
  · refine ⟨σ.set i (some (.loc S.length)), S ++ [x], by simp [h3], ?_⟩
    show Sat S0 (L.set i (sl a)) _ _
    rw [h2]
    exact (s.push x).setM i S.length x (by simp) s.le fun j hj o' => s.locs hj (Nat.le_refl _) o'
theorem StN.par2 (i j : Nat) {m1 m2 : ME} {p1 : Option α} {p2 : Option β} {s1 : α → Sl} {s2 : β → Sl} (h1 : EvS L m1 p1 s1) (h2 : EvS L m2 p2 s2) : StN L (mPar2 i j (mCons m1 (mCons m2 mNil))) (pB2 (fun a b => some (a, b)) p1 p2) (fun r => (L.set i (s1 r.1)).set j (s2 r.2)) := fun S0 σ S s r hr => by
  obtain ⟨a, ha, hr⟩ := bs hr
  obtain ⟨b, hb, hr⟩ := bs hr
  cases hr
  show ∃ σ' S', _ ∧ Sat S0 ((L.set i (s1 a)).set j (s2 b)) σ' S'
  rcases h1 S0 σ S s a ha with ⟨x, g1, g2⟩ | ⟨x, g1, g2⟩
  · rcases h2 S0 σ S s b hb with ⟨y, k1, k2⟩ | ⟨y, k1, k2⟩
    · refine ⟨(σ.set i (some x)).set j (some y), S, by simp [g2, k2], ?_⟩
      rw [g1, k1]; exact (s.setW i x).setW j y
    · refine ⟨(σ.set i (some x)).set j (some (.loc S.length)), S ++ [y], by simp [g2, k2], ?_⟩
      rw [g1, k1]
      refine ((s.push y).setW i x).setM j S.length y (by simp) s.le fun k hk o' q => ?_
      rcases set_at q with ⟨rfl, _, q⟩ | ⟨hne, q⟩
      · cases q
      · rw [List.getElem?_set_ne hne] at hk
        exact s.locs hk (Nat.le_refl _) o' q
  · have s' := (s.push x).setM i S.length x (by simp) s.le fun j hj o' => s.locs hj (Nat.le_refl _) o'
    rcases h2 S0 σ (S ++ [x]) (s.push x) b hb with ⟨y, k1, k2⟩ | ⟨y, k1, k2⟩
    · refine ⟨(σ.set i (some (.loc S.length))).set j (some y), S ++ [x], by simp [g2, k2], ?_⟩
      rw [g1, k1]; exact s'.setW j y
    · refine ⟨(σ.set i (some (.loc S.length))).set j (some (.loc (S ++ [x]).length)), S ++ [x] ++ [y], by simp [g2, k2], ?_⟩
      rw [g1, k1]
      refine (s'.push y).setM j (S ++ [x]).length y (by simp) (s.push x).le fun k hk o' q => ?_
      exact s'.locs hk (Nat.le_refl _) o' q
theorem StN.par3 (i j k : Nat) {m1 m2 m3 : ME} {p1 : Option α} {p2 : Option β} {p3 : Option γ} (h1 : Ev L m1 e p1) (h2 : Ev L m2 f p2) (h3 : Ev L m3 h p3) : StN L (mPar3 i j k (mCons m1 (mCons m2 (mCons m3 mNil)))) (pB3 (fun a b c => some (a, b, c)) p1 p2 p3) (fun r => ((L.set i (.w (.d (e r.1)))).set j (.w (.d (f r.2.1)))).set k (.w (.d (h r.2.2)))) := fun S0 σ S s r hr => by
  obtain ⟨a, ha, hr⟩ := bs hr
  obtain ⟨b, hb, hr⟩ := bs hr
  obtain ⟨c, hc, hr⟩ := bs hr
  cases hr
  exact ⟨_, S, by simp [h1 S0 σ S s a ha, h2 S0 σ S s b hb, h3 S0 σ S s c hc], ((s.setW i _).setW j _).setW k _⟩
/-- x, y = a tuple -/
theorem StN.unp {g : MG} {m : ME} {p : Option α} {bnd : List Sl → α → List Sl} (h1 : Ev L m e p) (hg : Tg g e bnd) : StN L (mAsgG g m) p (fun a => bnd L a) := fun S0 σ S s a ha => by
  obtain ⟨σ1, g1, g2⟩ := hg S0 L σ S s a
  exact ⟨σ1, S, by simp [h1 S0 σ S s a ha, g1], g2⟩
theorem StN.skip : StN L mSkip (some ()) (fun _ => L) := fun S0 σ S s a ha => ⟨σ, S, rfl, s⟩
theorem StN.expr {m : ME} {p : Option α} (h1 : Ev L m e p) : StN L (mExpr m) p (fun _ => L) := fun S0 σ S s a ha => ⟨σ, S, by simp [h1 S0 σ S s a ha], s⟩
theorem StN.raise {L1 : α → List Sl} : StN L (fun _ _ => none) none L1 := fun S0 σ S s a ha => by cases ha
theorem StF.raise : StF L (fun _ _ => none) er none := fun S0 σ S s a ha => by cases ha
/-- behind: less said, in other words -/
theorem StN.to {m : MS} {p : Option α} {L1 : α → List Sl} {L2 : β → List Sl} (h1 : StN L m p L1) (g : α → β) (hl : ∀ a, Le (L1 a) (L2 (g a))) : StN L m (p.map g) L2 := fun S0 σ S s b hb => by
  rw [Option.map_eq_some_iff] at hb
  obtain ⟨a, ha, rfl⟩ := hb
  obtain ⟨σ', S', h2, h3⟩ := h1 S0 σ S s a ha
  exact ⟨σ', S', h2, h3.weak (hl a)⟩
theorem StN.seq {m1 m2 : MS} {p1 : Option α} {p2 : α → Option β} {L1 : α → List Sl} {L2 : β → List Sl} (h1 : StN L m1 p1 L1) (h2 : ∀ a, StN (L1 a) m2 (p2 a) L2) : StN L (mSeq m1 m2) (p1.bind p2) L2 := fun S0 σ S s b hb => by
  obtain ⟨a, ha, hb⟩ := bs hb
  obtain ⟨σ', S', h3, h4⟩ := h1 S0 σ S s a ha
  obtain ⟨σ2, S2, h5, h6⟩ := h2 a S0 σ' S' h4 b hb
  exact ⟨σ2, S2, by simp [h3, h5], h6⟩
theorem StN.ite {t : MT} {m1 m2 : MS} {pt : Option Bool} {p1 p2 : Option α} {L1 : α → List Sl} (ht : Te L t pt) (h1 : StN L m1 p1 L1) (h2 : StN L m2 p2 L1) : StN L (mIfS t m1 m2) (pIf pt p1 p2) L1 := fun S0 σ S s a ha => by
  obtain ⟨k, hk, ha⟩ := bs ha
  cases k with
  | true =>
    obtain ⟨σ', S', h3, h4⟩ := h1 S0 σ S s a (by simpa using ha)
    exact ⟨σ', S', by simp [ht S0 σ S s true hk, h3], h4⟩
  | false =>
    obtain ⟨σ', S', h3, h4⟩ := h2 S0 σ S s a (by simpa using ha)
    exact ⟨σ', S', by simp [ht S0 σ S s false hk, h3], h4⟩
/-! ### returns -/
theorem StF.ret {m : ME} {p : Option ρ} (h1 : Ev L m er p) : StF L (mRet m) er p := fun S0 σ S s r hr => ⟨S, by simp [h1 S0 σ S s r hr], s.base⟩
theorem StF.seqN {m1 m2 : MS} {p1 : Option α} {p2 : α → Option ρ} {L1 : α → List Sl} (h1 : StN L m1 p1 L1) (h2 : ∀ a, StF (L1 a) m2 er (p2 a)) : StF L (mSeq m1 m2) er (p1.bind p2) := fun S0 σ S s r hr => by
  obtain ⟨a, ha, hr⟩ := bs hr
  obtain ⟨σ', S', h3, h4⟩ := h1 S0 σ S s a ha
  obtain ⟨S2, h5, h6⟩ := h2 a S0 σ' S' h4 r hr
  exact ⟨S2, by simp [h3, h5], h6⟩
theorem StF.seqR {m1 m2 : MS} {p1 : Option (α ⊕ ρ)} {p2 : α → Option ρ} {L1 : α → List Sl} (h1 : StR L m1 er p1 L1) (h2 : ∀ a, StF (L1 a) m2 er (p2 a)) : StF L (mSeq m1 m2) er (pSeqF p1 p2) := fun S0 σ S s r hr => by
  obtain ⟨a, ha, hr⟩ := bs hr
  obtain ⟨g1, g2⟩ := h1 S0 σ S s
  cases a with
  | inl a =>
    obtain ⟨σ', S', h3, h4⟩ := g1 a ha
    obtain ⟨S2, h5, h6⟩ := h2 a S0 σ' S' h4 r hr
    exact ⟨S2, by simp [h3, h5], h6⟩
  | inr r' =>
    have hr : some r' = some r := hr
    rw [Option.some.injEq] at hr
    subst hr
    obtain ⟨S', h3, h4⟩ := g2 _ ha
    exact ⟨S', by simp [h3], h4⟩
theorem StF.ite {t : MT} {m1 m2 : MS} {pt : Option Bool} {p1 p2 : Option ρ} (ht : Te L t pt) (h1 : StF L m1 er p1) (h2 : StF L m2 er p2) : StF L (mIfS t m1 m2) er (pIf pt p1 p2) := fun S0 σ S s a ha => by
  obtain ⟨k, hk, ha⟩ := bs ha
  cases k with
  | true =>
    obtain ⟨S', h3, h4⟩ := h1 S0 σ S s a (by simpa using ha)
    exact ⟨S', by simp [ht S0 σ S s true hk, h3], h4⟩
  | false =>
    obtain ⟨S', h3, h4⟩ := h2 S0 σ S s a (by simpa using ha)
    exact ⟨S', by simp [ht S0 σ S s false hk, h3], h4⟩
/-- if c: .. return; the rest -/
theorem StF.guard {t : MT} {m1 m2 : MS} {pt : Option Bool} {p1 p2 : Option ρ} (ht : Te L t pt) (h1 : StF L m1 er p1) (h2 : StF L m2 er p2) : StF L (mSeq (mIfS t m1 mSkip) m2) er (pIf pt p1 p2) := fun S0 σ S s a ha => by
  obtain ⟨k, hk, ha⟩ := bs ha
  cases k with
  | true =>
    obtain ⟨S', h3, h4⟩ := h1 S0 σ S s a (by simpa using ha)
    exact ⟨S', by simp [ht S0 σ S s true hk, h3], h4⟩
  | false =>
    obtain ⟨S', h3, h4⟩ := h2 S0 σ S s a (by simpa using ha)
    exact ⟨S', by simp [ht S0 σ S s false hk, h3], h4⟩
theorem StR.ofF {m : MS} {p : Option ρ} {L1 : α → List Sl} (h1 : StF L m er p) : StR L m er (p.map Sum.inr) L1 := fun S0 σ S s => by
  refine ⟨fun a ha => ?_, fun r hr => ?_⟩
  · rw [Option.map_eq_some_iff] at ha
    obtain ⟨_, _, z⟩ := ha
    cases z
  · rw [Option.map_eq_some_iff] at hr
    obtain ⟨r', h2, z⟩ := hr
    cases z
    exact h1 S0 σ S s r h2
theorem StR.ofN {m : MS} {p : Option α} {L1 : α → List Sl} (h1 : StN L m p L1) : StR L m er (p.map Sum.inl) L1 := fun S0 σ S s => by
  refine ⟨fun a ha => ?_, fun r hr => ?_⟩
  · rw [Option.map_eq_some_iff] at ha
    obtain ⟨a', h2, z⟩ := ha
    cases z
    exact h1 S0 σ S s a h2
  · rw [Option.map_eq_some_iff] at hr
    obtain ⟨_, _, z⟩ := hr
    cases z
theorem StR.ite {t : MT} {m1 m2 : MS} {pt : Option Bool} {p1 p2 : Option (α ⊕ ρ)} {L1 : α → List Sl} (ht : Te L t pt) (h1 : StR L m1 er p1 L1) (h2 : StR L m2 er p2 L1) : StR L (mIfS t m1 m2) er (pIf pt p1 p2) L1 := fun S0 σ S s => by
  refine ⟨fun a ha => ?_, fun a ha => ?_⟩ <;> obtain ⟨k, hk, ha⟩ := bs ha <;> cases k
  · obtain ⟨σ', S', h3, h4⟩ := (h2 S0 σ S s).1 a (by simpa using ha)
    exact ⟨σ', S', by simp [ht S0 σ S s false hk, h3], h4⟩
  · obtain ⟨σ', S', h3, h4⟩ := (h1 S0 σ S s).1 a (by simpa using ha)
    exact ⟨σ', S', by simp [ht S0 σ S s true hk, h3], h4⟩
  · obtain ⟨S', h3, h4⟩ := (h2 S0 σ S s).2 a (by simpa using ha)
    exact ⟨S', by simp [ht S0 σ S s false hk, h3], h4⟩
  · obtain ⟨S', h3, h4⟩ := (h1 S0 σ S s).2 a (by simpa using ha)
    exact ⟨S', by simp [ht S0 σ S s true hk, h3], h4⟩
theorem StR.guard {t : MT} {m1 m2 : MS} {pt : Option Bool} {p1 : Option ρ} {p2 : Option (α ⊕ ρ)} {L1 : α → List Sl} (ht : Te L t pt) (h1 : StF L m1 er p1) (h2 : StR L m2 er p2 L1) : StR L (mSeq (mIfS t m1 mSkip) m2) er (pIf pt (p1.map Sum.inr) p2) L1 := fun S0 σ S s => by
  refine ⟨fun a ha => ?_, fun a ha => ?_⟩ <;> obtain ⟨k, hk, ha⟩ := bs ha <;> cases k
  · obtain ⟨σ', S', h3, h4⟩ := (h2 S0 σ S s).1 a (by simpa using ha)
    exact ⟨σ', S', by simp [ht S0 σ S s false hk, h3], h4⟩
  · simp at ha
  · obtain ⟨S', h3, h4⟩ := (h2 S0 σ S s).2 a (by simpa using ha)
    exact ⟨S', by simp [ht S0 σ S s false hk, h3], h4⟩
  · simp at ha
    obtain ⟨S', h3, h4⟩ := h1 S0 σ S s a ha
    exact ⟨S', by simp [ht S0 σ S s true hk, h3], h4⟩
theorem StR.seqN {m1 m2 : MS} {p1 : Option α} {p2 : α → Option (β ⊕ ρ)} {L1 : α → List Sl} {L2 : β → List Sl} (h1 : StN L m1 p1 L1) (h2 : ∀ a, StR (L1 a) m2 er (p2 a) L2) : StR L (mSeq m1 m2) er (p1.bind p2) L2 := fun S0 σ S s => by
  refine ⟨fun b hb => ?_, fun b hb => ?_⟩ <;> obtain ⟨a, ha, hb⟩ := bs hb <;> obtain ⟨σ', S', h3, h4⟩ := h1 S0 σ S s a ha
  · obtain ⟨σ2, S2, h5, h6⟩ := (h2 a S0 σ' S' h4).1 b hb
    exact ⟨σ2, S2, by simp [h3, h5], h6⟩
  · obtain ⟨S2, h5, h6⟩ := (h2 a S0 σ' S' h4).2 b hb
    exact ⟨S2, by simp [h3, h5], h6⟩
theorem StR.seqR {m1 m2 : MS} {p1 : Option (α ⊕ ρ)} {p2 : α → Option (β ⊕ ρ)} {L1 : α → List Sl} {L2 : β → List Sl} (h1 : StR L m1 er p1 L1) (h2 : ∀ a, StR (L1 a) m2 er (p2 a) L2) : StR L (mSeq m1 m2) er (pSeqR p1 p2) L2 := fun S0 σ S s => by
  obtain ⟨g1, g2⟩ := h1 S0 σ S s
  refine ⟨fun b hb => ?_, fun b hb => ?_⟩ <;> obtain ⟨a, ha, hb⟩ := bs hb <;> cases a
  · obtain ⟨σ', S', h3, h4⟩ := g1 _ ha
    obtain ⟨σ2, S2, h5, h6⟩ := (h2 _ S0 σ' S' h4).1 b hb
    exact ⟨σ2, S2, by simp [h3, h5], h6⟩
  · cases hb
  · obtain ⟨σ', S', h3, h4⟩ := g1 _ ha
    obtain ⟨S2, h5, h6⟩ := (h2 _ S0 σ' S' h4).2 b hb
    exact ⟨S2, by simp [h3, h5], h6⟩
  · cases hb
    obtain ⟨S', h3, h4⟩ := g2 _ ha
    exact ⟨S', by simp [h3], h4⟩
/-! ### loops -/
theorem for_go {S0 : Sto} {g : MG} {b : MS} {bnd : List Sl → β → List Sl} {LB : α → List Sl} {pb : α → β → Option α} (hg : Tg g f bnd) (hb : ∀ a x, StN (bnd (LB a) x) b (pb a x) LB) : ∀ (xs : List β) (a a' : α) (σ : Env) (S : Sto), Sat S0 (LB a) σ S → pFor pb xs a = some a' →
    ∃ σ' S', forM g b (xs.map f) σ S = some (.nx σ' S') ∧ Sat S0 (LB a') σ' S'
  | [], a, a', σ, S, s, hv => by cases hv; exact ⟨σ, S, rfl, s⟩
  | x :: xs, a, a', σ, S, s, hv => by
    obtain ⟨a1, h1, hv⟩ := bs hv
    obtain ⟨σ1, g1, g2⟩ := hg S0 (LB a) σ S s x
    obtain ⟨σ2, S2, h3, h4⟩ := hb a x S0 σ1 S g2 a1 h1
    obtain ⟨σ', S', h5, h6⟩ := for_go hg hb xs a1 a' σ2 S2 h4 hv
    exact ⟨σ', S', by simp [g1, h3, h5], h6⟩
theorem StN.for {mi : MI} {g : MG} {b : MS} {bnd : List Sl → β → List Sl} (LB : α → List Sl) (a0 : α) {p : Option (List β)} {pb : α → β → Option α} (hi : It L mi f p) (hl : Le L (LB a0)) (hg : Tg g f bnd) (hb : ∀ a x, StN (bnd (LB a) x) b (pb a x) LB) :
    StN L (mFor mi g b) (p.bind fun xs => pFor pb xs a0) LB := fun S0 σ S s a' hv => by
  obtain ⟨xs, h1, hv⟩ := bs hv
  obtain ⟨σ', S', h2, h3⟩ := for_go hg hb xs a0 a' σ S (s.weak hl) hv
  exact ⟨σ', S', by simp [hi S0 σ S s xs h1, h2], h3⟩
theorem forR_go {S0 : Sto} {g : MG} {b : MS} {bnd : List Sl → β → List Sl} {LB : α → List Sl} {pb : α → β → Option (α ⊕ ρ)} (hg : Tg g f bnd) (hb : ∀ a x, StR (bnd (LB a) x) b er (pb a x) LB) : ∀ (xs : List β) (a : α) (σ : Env) (S : Sto), Sat S0 (LB a) σ S →
    (∀ a', pForR pb xs a = some (.inl a') → ∃ σ' S', forM g b (xs.map f) σ S = some (.nx σ' S') ∧ Sat S0 (LB a') σ' S') ∧ ∀ r, pForR pb xs a = some (.inr r) → ∃ S', forM g b (xs.map f) σ S = some (.rt (.d (er r)) S') ∧ S'.take S0.length = S0
  | [], a, σ, S, s => ⟨fun a' hv => by cases hv; exact ⟨σ, S, rfl, s⟩, fun r hv => by cases hv⟩
  | x :: xs, a, σ, S, s => by
    obtain ⟨σ1, g1, g2⟩ := hg S0 (LB a) σ S s x
    obtain ⟨k1, k2⟩ := hb a x S0 σ1 S g2
    refine ⟨fun a' hv => ?_, fun r hv => ?_⟩ <;> obtain ⟨c, h1, hv⟩ := bs hv <;> cases c
    · obtain ⟨σ2, S2, h3, h4⟩ := k1 _ h1
      obtain ⟨σ', S', h5, h6⟩ := (forR_go hg hb xs _ σ2 S2 h4).1 a' hv
      exact ⟨σ', S', by simp [g1, h3, h5], h6⟩
    · cases hv
    · obtain ⟨σ2, S2, h3, h4⟩ := k1 _ h1
      obtain ⟨S', h5, h6⟩ := (forR_go hg hb xs _ σ2 S2 h4).2 r hv
      exact ⟨S', by simp [g1, h3, h5], h6⟩
    · cases hv
      obtain ⟨S2, h3, h4⟩ := k2 _ h1
      exact ⟨S2, by simp [g1, h3], h4⟩
theorem StR.for {mi : MI} {g : MG} {b : MS} {bnd : List Sl → β → List Sl} (LB : α → List Sl) (a0 : α) {p : Option (List β)} {pb : α → β → Option (α ⊕ ρ)} (hi : It L mi f p) (hl : Le L (LB a0)) (hg : Tg g f bnd) (hb : ∀ a x, StR (bnd (LB a) x) b er (pb a x) LB) :
    StR L (mFor mi g b) er (p.bind fun xs => pForR pb xs a0) LB := fun S0 σ S s => by
  refine ⟨fun a' hv => ?_, fun r hv => ?_⟩ <;> obtain ⟨xs, h1, hv⟩ := bs hv
  · obtain ⟨σ', S', h2, h3⟩ := (forR_go hg hb xs a0 σ S (s.weak hl)).1 a' hv
    exact ⟨σ', S', by simp [hi S0 σ S s xs h1, h2], h3⟩
  · obtain ⟨S', h2, h3⟩ := (forR_go hg hb xs a0 σ S (s.weak hl)).2 r hv
    exact ⟨S', by simp [hi S0 σ S s xs h1, h2], h3⟩
theorem while_go {S0 : Sto} {c : MT} {b : MS} {LB : α → List Sl} {pc : α → Option Bool} {pb : α → Option α} (hc : ∀ a, Te (LB a) c (pc a)) (hb : ∀ a, StN (LB a) b (pb a) LB) : ∀ (n : Nat) (a a' : α) (σ : Env) (S : Sto), Sat S0 (LB a) σ S → pWhile pc pb n a = some a' →
    ∃ σ' S', whileM c b n σ S = some (.nx σ' S') ∧ Sat S0 (LB a') σ' S'
  | 0, a, a', σ, S, s, hv => by cases hv
  | n + 1, a, a', σ, S, s, hv => by
    obtain ⟨k, hk, hv⟩ := bs hv
    have c1 := hc a S0 σ S s k hk
    cases k with
    | true =>
      obtain ⟨a1, h1, hv⟩ := bs (by simpa using hv)
      obtain ⟨σ2, S2, h3, h4⟩ := hb a S0 σ S s a1 h1
      obtain ⟨σ', S', h5, h6⟩ := while_go hc hb n a1 a' σ2 S2 h4 hv
      exact ⟨σ', S', by simp [whileM, c1, h3, h5], h6⟩
    | false =>
      have : a = a' := by simpa using hv
      subst this
      exact ⟨σ, S, by simp [whileM, c1], s⟩
theorem StN.while {c : MT} {b : MS} (n : Nat) (LB : α → List Sl) (a0 : α) {pc : α → Option Bool} {pb : α → Option α} (hl : Le L (LB a0)) (hc : ∀ a, Te (LB a) c (pc a)) (hb : ∀ a, StN (LB a) b (pb a) LB) : StN L (whileM c b n) (pWhile pc pb n a0) LB := fun S0 σ S s a' hv =>
  while_go hc hb n a0 a' σ S (s.weak hl) hv
/-! ### own objects -/
theorem StN.frz (i : Nat) {ds : List D} (hL : L[i]? = some (.m (.lst ds)) := by rfl) : StN L (mFrzV i) (some ()) (fun _ => L.set i (.w (.d (.list ds)))) := fun S0 σ S s a ha => by
  obtain ⟨n, h1, h2, h3⟩ := s.kill hL
  exact ⟨σ.set i (some (.d (.list ds))), S.set n .dead, by simp [mFrzV, h1, DL.frz, h2], h3 .dead _⟩
theorem StN.frz0 (i : Nat) {d : D} (hL : L[i]? = some (.w (.d d)) := by rfl) : StN L (mFrzV i) (some ()) (fun _ => L.set i (.w (.d d))) := fun S0 σ S s a ha => ⟨σ.set i (some (.d d)), S, by simp [mFrzV, s.w i _ hL, DL.frz], s.setW i _⟩
theorem StN.app (i : Nat) {xs : List α} {m : ME} {p : Option α} (h1 : Ev L m e p) (hL : L[i]? = some (.m (.lst (xs.map e))) := by rfl) : StN L (mExpr (mMeth isLoc gAppend (mVar i) (mCons m mNil))) (p.bind fun a => pFit (xs ++ [a])) (fun ys => L.set i (.m (.lst (ys.map e)))) := fun S0 σ S s ys hy => by
  obtain ⟨a, ha, hy2⟩ := bs hy
  clear hy
  obtain ⟨rfl, hf, _⟩ := pFit_some hy2
  obtain ⟨n, h2, h3, h4⟩ := s.write hL
  have hf' : fits (xs.length + 1) = true := by simpa using hf
  refine ⟨σ, S.set n (.lst ((xs ++ [a]).map e)), ?_, h4 _⟩
  simp [h2, isLoc, h3, h1 S0 σ S s a ha, gAppend, hf']
theorem StN.ext (i : Nat) {xs : List α} {m : ME} {p : Option (List α)} (h1 : Ev L m (eL e) p) (hL : L[i]? = some (.m (.lst (xs.map e))) := by rfl) : StN L (mExpr (mMeth isLoc gExtend (mVar i) (mCons m mNil))) (p.bind fun a => pFit (xs ++ a)) (fun ys => L.set i (.m (.lst (ys.map e)))) := fun S0 σ S s ys hy => by
  obtain ⟨a, ha, hy2⟩ := bs hy
  clear hy
  obtain ⟨rfl, hf, _⟩ := pFit_some hy2
  obtain ⟨n, h2, h3, h4⟩ := s.write hL
  have hf' : fits (xs.length + a.length) = true := by simpa using hf
  refine ⟨σ, S.set n (.lst ((xs ++ a).map e)), ?_, h4 _⟩
  simp [h2, isLoc, h3, h1 S0 σ S s a ha, gExtend, hf']
/-- reading an own list -/
theorem Ev.lenM (i : Nat) {ds : List D} (hL : L[i]? = some (.m (.lst ds)) := by rfl) : Ev L (mCall (pure1 vLen) (mCons (mVar i) mNil)) eI (some (ds.length : Int)) := fun S0 σ S s v hv => by
  cases hv
  obtain ⟨n, h2, h3, _⟩ := s.write hL
  simp [h2, vLen, seqOf, asL, h3]
theorem Ev.ixM (i : Nat) {xs : List α} {m : ME} {p : Option Int} (h1 : Ev L m eI p) (hL : L[i]? = some (.m (.lst (xs.map e))) := by rfl) : Ev L (mBin vIx (mVar i) m) e (pB1 (pIx xs) p) := fun S0 σ S s v hv => by
  obtain ⟨a, ha, hv⟩ := bs hv
  obtain ⟨n, h2, h3, _⟩ := s.write hL
  have hv' : atI xs a = some v := hv
  simp [h2, h1 S0 σ S s a ha, h3, atI_map, hv']
/-! ### dicts -/
section
variable {κ κ' : Type} [DecidableEq κ] [DecidableEq κ']
def valT (kvs : List (κ × α)) (k : κ) : Option α := (kvs.find? fun kv => decide (kv.1 = k)).map (·.2)
def putT (kvs : List (κ × α)) (k : κ) (a : α) : List (κ × α) := if (valT kvs k).isSome then kvs.map fun kv => if kv.1 = k then (kv.1, a) else kv else kvs ++ [(k, a)]
abbrev eKV (kk : κ → κ') (e : Enc α) : κ × α → κ' × D := fun kv => (kk kv.1, e kv.2)
theorem valD_map {kk : κ → κ'} (hk : ∀ a b, kk a = kk b → a = b) (kvs : List (κ × α)) (k : κ) : valD (kvs.map (eKV kk e)) (kk k) = (valT kvs k).map e := by
  have hd : ∀ a b : κ, decide (kk a = kk b) = decide (a = b) := fun a b => by
    by_cases h : a = b
    · subst h; simp
    · have : kk a ≠ kk b := fun z => h (hk a b z)
      simp [h, this]
  induction kvs with
  | nil => rfl
  | cons kv r ih =>
    unfold valD valT at *
    simp only [List.map_cons, List.find?_cons]
    rw [hd]
    by_cases h : kv.1 = k
    · simp [h]
    · simp only [h, decide_false]
      exact ih
theorem putD_map {kk : κ → κ'} (hk : ∀ a b, kk a = kk b → a = b) (kvs : List (κ × α)) (k : κ) (a : α) : putD (kvs.map (eKV kk e)) (kk k) (e a) = (putT kvs k a).map (eKV kk e) := by
  unfold putD putT
  rw [valD_map hk]
  cases hv : valT kvs k with
  | none => simp
  | some b =>
    simp only [Option.map_some, Option.isSome_some, if_true, List.map_map]
    congr 1
    funext kv
    by_cases h : kv.1 = k
    · simp [h]
    · have : kk kv.1 ≠ kk k := fun z => h (hk _ _ z)
      simp [h, this]
/-- keys: an int, a text; tuples -/
structure KK (ek : Enc κ) (kk : κ → Key) : Prop where
  inj : ∀ a b, kk a = kk b → a = b
  key : ∀ k, keyD (ek k) = some (kk k)
  back : ∀ k, kD (kk k) = ek k
structure KT (ek : Enc κ) (kk : κ → List Key) : Prop where
  inj : ∀ a b, kk a = kk b → a = b
  key : ∀ k, keyT (ek k) = some (kk k)
  back : ∀ k, PyData.tuple ((kk k).map kD) = ek k
theorem StN.putK (i : Nat) {ek : Enc κ} {kk : κ → Key} (K : KK ek kk) {kvs : List (κ × α)} {mk mv : ME} {pk : Option κ} {pv : Option α} (h1 : Ev L mv e pv) (h2 : Ev L mk ek pk) (hL : L[i]? = some (.m (.dK (kvs.map (eKV kk e)))) := by rfl) :
    StN L (mSetI vSetI (mVar i) mk mv) (pB2 (fun v k => if okLen (kvs.length + 1) = true then some (putT kvs k v) else none) pv pk) (fun ys => L.set i (.m (.dK (ys.map (eKV kk e))))) := fun S0 σ S s ys hy => by
  obtain ⟨v, hv, hy⟩ := bs hy
  obtain ⟨k, hk, hy⟩ := bs hy
  obtain ⟨n, h3, h4, h5⟩ := s.write hL
  split at hy
  · rename_i q
    cases hy
    refine ⟨σ, S.set n (.dK ((putT kvs k v).map (eKV kk e))), ?_, h5 _⟩
    simp [h1 S0 σ S s v hv, h2 S0 σ S s k hk, h3, vSetI, h4, K.key, fits_of q, putD_map K.inj]
  · cases hy
theorem StN.putT (i : Nat) {ek : Enc κ} {kk : κ → List Key} (K : KT ek kk) {kvs : List (κ × α)} {mk mv : ME} {pk : Option κ} {pv : Option α} (h1 : Ev L mv e pv) (h2 : Ev L mk ek pk) (hL : L[i]? = some (.m (.dT (kvs.map (eKV kk e)))) := by rfl) :
    StN L (mSetI vSetI (mVar i) mk mv) (pB2 (fun v k => if okLen (kvs.length + 1) = true then some (DL.putT kvs k v) else none) pv pk) (fun ys => L.set i (.m (.dT (ys.map (eKV kk e))))) := fun S0 σ S s ys hy => by
  obtain ⟨v, hv, hy⟩ := bs hy
  obtain ⟨k, hk, hy⟩ := bs hy
  obtain ⟨n, h3, h4, h5⟩ := s.write hL
  split at hy
  · rename_i q
    cases hy
    refine ⟨σ, S.set n (.dT ((DL.putT kvs k v).map (eKV kk e))), ?_, h5 _⟩
    simp [h1 S0 σ S s v hv, h2 S0 σ S s k hk, h3, vSetI, h4, K.key, fits_of q, putD_map K.inj]
  · cases hy
theorem Ev.getK (i : Nat) {ek : Enc κ} {kk : κ → Key} (K : KK ek kk) {kvs : List (κ × α)} {mk : ME} {pk : Option κ} (h2 : Ev L mk ek pk) (hL : L[i]? = some (.m (.dK (kvs.map (eKV kk e)))) := by rfl) : Ev L (mBin vDGet (mVar i) mk) e (pB1 (valT kvs) pk) := fun S0 σ S s v hv => by
  obtain ⟨k, hk, hv⟩ := bs hv
  obtain ⟨n, h3, h4, h5⟩ := s.write hL
  simp [h3, h2 S0 σ S s k hk, vDGet, lookD, h4, K.key, valD_map K.inj, hv]
theorem Ev.getT (i : Nat) {ek : Enc κ} {kk : κ → List Key} (K : KT ek kk) {kvs : List (κ × α)} {mk : ME} {pk : Option κ} (h2 : Ev L mk ek pk) (hL : L[i]? = some (.m (.dT (kvs.map (eKV kk e)))) := by rfl) : Ev L (mBin vDGet (mVar i) mk) e (pB1 (valT kvs) pk) := fun S0 σ S s v hv => by
  obtain ⟨k, hk, hv⟩ := bs hv
  obtain ⟨n, h3, h4, h5⟩ := s.write hL
  simp [h3, h2 S0 σ S s k hk, vDGet, lookD, h4, K.key, valD_map K.inj, hv]
theorem Ev.hasK (i : Nat) {ek : Enc κ} {kk : κ → Key} (K : KK ek kk) {kvs : List (κ × α)} {mk : ME} {pk : Option κ} (h2 : Ev L mk ek pk) (hL : L[i]? = some (.m (.dK (kvs.map (eKV kk e)))) := by rfl) : Ev L (mBin vIn mk (mVar i)) eB (pk.map fun k => (valT kvs k).isSome) := fun S0 σ S s v hv => by
  rw [Option.map_eq_some_iff] at hv
  obtain ⟨k, hk, rfl⟩ := hv
  obtain ⟨n, h3, h4, h5⟩ := s.write hL
  simp [h3, h2 S0 σ S s k hk, vIn, vHas, lookD, h4, K.key, valD_map K.inj]
theorem Ev.hasT (i : Nat) {ek : Enc κ} {kk : κ → List Key} (K : KT ek kk) {kvs : List (κ × α)} {mk : ME} {pk : Option κ} (h2 : Ev L mk ek pk) (hL : L[i]? = some (.m (.dT (kvs.map (eKV kk e)))) := by rfl) : Ev L (mBin vIn mk (mVar i)) eB (pk.map fun k => (valT kvs k).isSome) := fun S0 σ S s v hv => by
  rw [Option.map_eq_some_iff] at hv
  obtain ⟨k, hk, rfl⟩ := hv
  obtain ⟨n, h3, h4, h5⟩ := s.write hL
  simp [h3, h2 S0 σ S s k hk, vIn, vHas, lookD, h4, K.key, valD_map K.inj]
theorem KK.int : KK eI (fun i => Sum.inl i) := ⟨fun a b z => by cases z; rfl, fun _ => rfl, fun _ => rfl⟩
theorem KK.str : KK eS (fun i => Sum.inr i) := ⟨fun a b z => by cases z; rfl, fun _ => rfl, fun _ => rfl⟩
theorem keysD_ints : ∀ ns : List Int, keysD (ns.map eI) = some (ns.map Sum.inl)
  | [] => rfl
  | n :: ns => by simp [keysD, keyD, keysD_ints ns]
theorem inl_inj : ∀ a b : List Int, (a.map Sum.inl : List Key) = b.map Sum.inl → a = b
  | [], [], _ => rfl
  | [], _ :: _, h => by cases h
  | _ :: _, [], h => by cases h
  | x :: a, y :: b, h => by
    simp only [List.map_cons, List.cons.injEq, Sum.inl.injEq] at h
    rw [h.1, inl_inj a b h.2]
theorem KT.nums : KT (eV eI) (fun ns => ns.map Sum.inl) := ⟨inl_inj, fun k => keysD_ints k, fun k => by simp [kD, Function.comp_def]⟩
theorem KT.ii : KT (eP eI eI) (fun p => [Sum.inl p.1, Sum.inl p.2]) := ⟨fun a b z => by cases a; cases b; cases z; rfl, fun k => rfl, fun k => rfl⟩
end
/-! ### defs -/
theorem sat_start (S : Sto) (n : Nat) (ws : List D) : Sat S (ws.map (fun d => Sl.w (.d d)) ++ List.replicate (n - ws.length) .j) (ws.map (fun d => some (W.d d)) ++ List.replicate (n - ws.length) none) S := by
  refine ⟨by simp, by simp, fun i x hx => ?_, fun _ => 0, fun i o ho => ?_, fun i j o o' h1 => ?_⟩
  · by_cases hi : i < ws.length
    · rw [List.getElem?_append_left (by simpa using hi)] at hx ⊢
      rw [List.getElem?_map] at hx ⊢
      cases h : ws[i]? with
      | none => rw [h] at hx; cases hx
      | some d => rw [h] at hx; cases hx; rfl
    · rw [List.getElem?_append_right (by simpa using hi), List.getElem?_replicate] at hx
      split at hx <;> cases hx
  · exfalso
    by_cases hi : i < ws.length
    · rw [List.getElem?_append_left (by simpa using hi), List.getElem?_map] at ho
      cases h : ws[i]? with
      | none => rw [h] at ho; cases ho
      | some d => rw [h] at ho; cases ho
    · rw [List.getElem?_append_right (by simpa using hi), List.getElem?_replicate] at ho
      split at ho <;> cases ho
  · exfalso
    by_cases hi : i < ws.length
    · rw [List.getElem?_append_left (by simpa using hi), List.getElem?_map] at h1
      cases h : ws[i]? with
      | none => rw [h] at h1; cases h1
      | some d => rw [h] at h1; cases h1
    · rw [List.getElem?_append_right (by simpa using hi), List.getElem?_replicate] at h1
      split at h1 <;> cases h1
theorem fn_st {n : Nat} {b : MS} {p : Option ρ} (ws : List D) (h1 : StF (ws.map (fun d => Sl.w (.d d)) ++ List.replicate (n - ws.length) .j) b er p) (S : Sto) (r : ρ) (hr : p = some r) : fnD n b (ws.map W.d) S = some (.d (er r), S) := by
  obtain ⟨S', h2, h3⟩ := h1 S _ S (sat_start S n ws) r hr
  unfold fnD
  have : (List.map some (List.map W.d ws) ++ List.replicate (n - (List.map W.d ws).length) none : Env) = (ws.map (fun d => some (W.d d)) ++ List.replicate (n - ws.length) none) := by simp
  rw [this, h2]
  simp [h3]
theorem fn_stN {n : Nat} {b : MS} {p : Option α} {L1 : α → List Sl} (ws : List D) (h1 : StN (ws.map (fun d => Sl.w (.d d)) ++ List.replicate (n - ws.length) .j) b p L1) (S : Sto) (r : Unit) (hr : p.map (fun _ => ()) = some r) : fnD n b (ws.map W.d) S = some (.d (eN r), S) := by
  rw [Option.map_eq_some_iff] at hr
  obtain ⟨a, ha, _⟩ := hr
  obtain ⟨σ', S', h2, h3⟩ := h1 S _ S (sat_start S n ws) a ha
  unfold fnD
  have : (List.map some (List.map W.d ws) ++ List.replicate (n - (List.map W.d ws).length) none : Env) = (ws.map (fun d => some (W.d d)) ++ List.replicate (n - ws.length) none) := by simp
  rw [this, h2]
  have := h3.base
  simp [this]
end
end DL

set_option Elab.async false
set_option linter.all false
set_option maxRecDepth 100000
set_option autoImplicit false
/-! The typed layer: what operators and built-in functions do to values. -/
noncomputable section
namespace DL
open PySem PySem.Spec PyProof.Rows L2
theorem Le.nil : Le [] [] := trivial
theorem Le.j {a : Sl} {l l' : List Sl} (h : Le l l') : Le (a :: l) (.j :: l') := ⟨.inl rfl, h⟩
theorem Le.e {a : Sl} {l l' : List Sl} (h : Le l l') : Le (a :: l) (a :: l') := ⟨.inr rfl, h⟩
section
variable {α β γ δ ρ : Type} {L : List Sl} {e : Enc α} {f : Enc β}
/-! ### operators -/
theorem tAdd : G2T vAdd eI eI eI (fun a b => some (a + b)) := fun S a b c h => by cases h; rfl
theorem tSub : G2T vSub eI eI eI (fun a b => some (a - b)) := fun S a b c h => by cases h; rfl
theorem tMul : G2T vMul eI eI eI pMul := fun S a b c h => by
  unfold pMul at h
  split at h
  · rename_i q
    cases h
    rw [Bool.or_eq_true, decide_eq_true_eq, decide_eq_true_eq] at q
    rcases q with q | q
    · simp [mulOk_l q.1 q.2]
    · simp [mulOk_r q.1 q.2]
  · cases h
theorem tDiv : G2T vFdiv eI eI eI pDiv := fun S a b c h => by
  unfold pDiv at h
  split at h
  · rename_i q
    have q := of_decide_eq_true q
    cases h
    simp [divOk_of q.1 q.2]
  · cases h
theorem tMod : G2T vMod eI eI eI pMod := fun S a b c h => by
  unfold pMod at h
  split at h
  · rename_i q
    have q := of_decide_eq_true q
    cases h
    simp [q]
  · cases h
theorem tPow : G2T vPow eI eI eI pPow := fun S a b c h => by
  unfold pPow at h
  split at h
  · rename_i q
    have q := of_decide_eq_true q
    cases h
    simp [powOk_s q.1 q.2.1 q.2.2]
  · cases h
theorem tXor : G2T (vInt2 Builtin.bitXor) eI eI eI (fun a b => some (Builtin.bitXor a b)) := fun S a b c h => by cases h; rfl
theorem tAnd : G2T (vInt2 Builtin.bitAnd) eI eI eI (fun a b => some (Builtin.bitAnd a b)) := fun S a b c h => by cases h; rfl
theorem tLt : G2T vLt eI eI eB (fun a b => some (decide (a < b))) := fun S a b c h => by cases h; rfl
theorem tLe : G2T vLe eI eI eB (fun a b => some (decide (a ≤ b))) := fun S a b c h => by cases h; rfl
theorem tGt : G2T vGt eI eI eB (fun a b => some (decide (b < a))) := fun S a b c h => by cases h; rfl
theorem tGe : G2T vGe eI eI eB (fun a b => some (decide (b ≤ a))) := fun S a b c h => by cases h; rfl
theorem tNeg : G1T vNeg eI eI (fun a => some (-a)) := fun S a b h => by cases h; rfl
theorem tAddL : G2T vAdd (eL e) (eL e) (eL e) pApp := fun S a b c h => by
  obtain ⟨rfl, h, _⟩ := pFit_some h
  simp [vAdd, show fits (a.length + b.length) = true by simpa using h]
theorem tAddV : G2T vAdd (eV e) (eV e) (eV e) pApp := fun S a b c h => by
  obtain ⟨rfl, h, _⟩ := pFit_some h
  simp [vAdd, show fits (a.length + b.length) = true by simpa using h]
theorem tIxL : G2T vIx (eL e) eI e pIx := fun S a b c h => by
  have h : atI a b = some c := h
  simp [atI_map, h]
theorem tIxV : G2T vIx (eV e) eI e pIx := fun S a b c h => by
  have h : atI a b = some c := h
  simp [atI_map, h]
/-! equality -/
structure EqE {α : Type} [DecidableEq α] (e : Enc α) (n : Nat) : Prop where
  eqv : ∀ a b, PyData.eqv (e a) (e b) = decide (a = b)
  lay : ∀ a, PyData.canLay0 (e a) = true
  dep : ∀ a, (e a).depth ≤ n
  nos : ∀ a x, e a ≠ .str x
theorem EqE.int : EqE eI 0 := ⟨fun a b => by simp, fun _ => rfl, fun _ => by simp [PyData.depth], fun _ _ z => by cases z⟩
theorem EqE.bool : EqE eB 0 := ⟨fun a b => by cases a <;> cases b <;> simp [PyData.eqv], fun _ => rfl, fun _ => by simp [PyData.depth], fun _ _ z => by cases z⟩
theorem eqvAll_map [DecidableEq α] {n : Nat} (E : EqE e n) : ∀ xs ys : List α, PyData.eqvAll (xs.map e) (ys.map e) = decide (xs = ys)
  | [], [] => by simp [PyData.eqvAll]
  | [], _ :: _ => by simp [PyData.eqvAll]
  | _ :: _, [] => by simp [PyData.eqvAll]
  | x :: xs, y :: ys => by simp only [List.map_cons, PyData.eqvAll, E.eqv, eqvAll_map E xs ys, List.cons.injEq, Bool.decide_and]
theorem layAll_map [DecidableEq α] {n : Nat} (E : EqE e n) : ∀ xs : List α, PyData.canLayAll0 (xs.map e) = true
  | [] => by simp [PyData.canLayAll0]
  | x :: xs => by simp [PyData.canLayAll0, E.lay, layAll_map E xs]
theorem depAll_map [DecidableEq α] {n : Nat} (E : EqE e n) : ∀ xs : List α, PyData.depthAll (xs.map e) ≤ n
  | [] => by simp [PyData.depthAll]
  | x :: xs => by
    have := E.dep x
    have := depAll_map E xs
    simp [PyData.depthAll]; omega
theorem EqE.l [DecidableEq α] {n : Nat} (E : EqE e n) : EqE (eL e) (n + 1) := ⟨fun a b => by simp only [PyData.eqv]; exact eqvAll_map E a b, fun a => by simp [PyData.canLay0, layAll_map E], fun a => by
  have := depAll_map E a
  simp [PyData.depth]; omega, fun _ _ z => by cases z⟩
theorem EqE.v [DecidableEq α] {n : Nat} (E : EqE e n) : EqE (eV e) (n + 1) := ⟨fun a b => by simp only [PyData.eqv]; exact eqvAll_map E a b, fun a => by simp [PyData.canLay0, layAll_map E], fun a => by
  have := depAll_map E a
  simp [PyData.depth]; omega, fun _ _ z => by cases z⟩
theorem EqE.p [DecidableEq α] [DecidableEq β] {n : Nat} (E : EqE e n) (F : EqE f n) : EqE (eP e f) (n + 1) := ⟨fun a b => by
  obtain ⟨a1, a2⟩ := a
  obtain ⟨b1, b2⟩ := b
  simp [PyData.eqv, PyData.eqvAll, E.eqv, F.eqv], fun a => by simp [PyData.canLay0, PyData.canLayAll0, E.lay, F.lay], fun a => by
  have := E.dep a.1
  have := F.dep a.2
  simp [PyData.depth, PyData.depthAll]; omega, fun _ _ z => by cases z⟩
theorem EqE.shaped [DecidableEq α] {n : Nat} (E : EqE e n) (hn : n ≤ 64) (a : α) : SeqAt.shaped (e a) = true := by
  unfold SeqAt.shaped
  rw [E.lay, Bool.true_and]
  exact decide_eq_true (Nat.le_trans (E.dep a) hn)
theorem strs2_none {d d' : D} (h : ∀ x, d ≠ .str x) : strs2 (.d d) (.d d') = none := by
  unfold strs2
  split
  · rename_i h1 _
    cases h1
    exact absurd rfl (h _)
  · rfl
theorem tEq [DecidableEq α] {n : Nat} (E : EqE e n) (hn : n ≤ 64 := by decide) : G2T vEq e e eB (fun a b => some (decide (a = b))) := fun S a b c h => by
  cases h
  simp [vEq, strs2_none (E.nos a), asD, E.shaped hn, E.eqv]
theorem tNe [DecidableEq α] {n : Nat} (E : EqE e n) (hn : n ≤ 64 := by decide) : G2T vNe e e eB (fun a b => some (!decide (a = b))) := fun S a b c h => by
  cases h
  simp [vNe, strs2_none (E.nos a), asD, E.shaped hn, E.eqv]
theorem beq_str (a b : Str) : (a == b) = decide (a = b) := by
  by_cases h : a = b
  · subst h; simp
  · simp [h]
theorem tEqS : G2T vEq eS eS eB (fun a b => some (decide (a = b))) := fun S a b c h => by
  cases h
  simp [vEq, strs2, beq_str]
theorem tNeS : G2T vNe eS eS eB (fun a b => some (!decide (a = b))) := fun S a b c h => by
  cases h
  simp [vNe, strs2, beq_str]
theorem Ev.isN {m : ME} {p : Option (Option α)} (hn : ∀ a, e a ≠ .none) (h1 : Ev L m (eO e) p) : Ev L (mBin vIsN m mNone) eB (p.map Option.isNone) := fun S0 σ S s v hv => by
  rw [Option.map_eq_some_iff] at hv
  obtain ⟨a, ha, rfl⟩ := hv
  cases a with
  | none => simp [h1 S0 σ S s _ ha, vIsN, eO, isNone]
  | some x =>
    have : isNone (.d (e x)) = false := by
      unfold isNone
      split
      · rename_i q
        cases hq : e x <;> rw [hq] at q <;> first | exact absurd hq (hn x) | cases q
      · rfl
    simp [h1 S0 σ S s _ ha, vIsN, eO, this]
/-! membership -/
theorem has_map [DecidableEq α] {n : Nat} (E : EqE e n) (x : α) (xs : List α) : hasD (e x) (xs.map e) = decide (x ∈ xs) := by
  unfold hasD
  induction xs with
  | nil => simp
  | cons y ys ih =>
    simp only [List.map_cons, List.any_cons, ih, E.eqv, List.mem_cons, Bool.decide_or]
    congr 1
    exact decide_eq_decide.mpr ⟨fun h => h.symm, fun h => h.symm⟩
theorem flat_map (hf : ∀ a, flatD (e a) = true) (x : α) (xs : List α) : memOk (e x) (xs.map e) = true := by
  unfold memOk
  simp [hf]
theorem tInL [DecidableEq α] {n : Nat} (E : EqE e n) (hn : n ≤ 63 := by decide) : G2T vIn e (eL e) eB (fun a b => some (decide (a ∈ b))) := fun S a b c h => by
  cases h
  have h1 := E.shaped (by omega) a
  have h2 := E.l.shaped (by omega) b
  have l1 : lookD S (.d (eL e b)) (.d (e a)) = none := rfl
  have h2' : SeqAt.shaped (.list (b.map e)) = true := h2
  simp only [vIn, vHas, l1, asD, Option.bind_some, asT, asL_d, has_map E, h1, h2', Bool.and_true, if_true, ite_self, Option.map_some]
theorem tNinL [DecidableEq α] {n : Nat} (E : EqE e n) (hn : n ≤ 63 := by decide) : G2T vNotIn e (eL e) eB (fun a b => some (!decide (a ∈ b))) := fun S a b c h => by
  cases h
  have h1 := E.shaped (by omega) a
  have h2 := E.l.shaped (by omega) b
  have l1 : lookD S (.d (eL e b)) (.d (e a)) = none := rfl
  have h2' : SeqAt.shaped (.list (b.map e)) = true := h2
  simp only [vNotIn, vHas, l1, asD, Option.bind_some, asT, asL_d, has_map E, h1, h2', Bool.and_true, if_true, ite_self, Option.map_some]
theorem tInV : G2T vIn eI (eV eI) eB (fun a b => some (decide (a ∈ b))) := fun S a b c h => by cases h; exact in_tup S a b
theorem tNinV : G2T vNotIn eI (eV eI) eB (fun a b => some (!decide (a ∈ b))) := fun S a b c h => by cases h; exact notIn_tup S a b
/-- .. a constant tuple of the top -/
theorem Ev.inC {x : Option α} [DecidableEq α] {m : ME} {xs : List α} (hf : ∀ a, flatD (e a) = true) (hE : ∀ a b, PyData.eqv (e a) (e b) = decide (a = b)) (h1 : Ev L m e x) {ds : List D} (hd : ds = xs.map e := by rfl) : Ev L (mBin vIn m (mC (.ct ds))) eB (x.map fun a => decide (a ∈ xs)) := fun S0 σ S s v hv => by
  rw [Option.map_eq_some_iff] at hv
  obtain ⟨a, ha, rfl⟩ := hv
  subst hd
  have hm : hasD (e a) (xs.map e) = decide (a ∈ xs) := by
    unfold hasD
    induction xs with
    | nil => simp
    | cons y ys ih =>
      simp only [List.map_cons, List.any_cons, ih, hE, List.mem_cons, Bool.decide_or]
      congr 1
      exact decide_eq_decide.mpr ⟨fun h => h.symm, fun h => h.symm⟩
  simp [h1 S0 σ S s a ha, vIn, vHas, asD, flat_map hf, hm]
theorem Ev.ninC {x : Option α} [DecidableEq α] {m : ME} {xs : List α} (hf : ∀ a, flatD (e a) = true) (hE : ∀ a b, PyData.eqv (e a) (e b) = decide (a = b)) (h1 : Ev L m e x) {ds : List D} (hd : ds = xs.map e := by rfl) : Ev L (mBin vNotIn m (mC (.ct ds))) eB (x.map fun a => !decide (a ∈ xs)) := fun S0 σ S s v hv => by
  rw [Option.map_eq_some_iff] at hv
  obtain ⟨a, ha, rfl⟩ := hv
  subst hd
  have hm : hasD (e a) (xs.map e) = decide (a ∈ xs) := by
    unfold hasD
    induction xs with
    | nil => simp
    | cons y ys ih =>
      simp only [List.map_cons, List.any_cons, ih, hE, List.mem_cons, Bool.decide_or]
      congr 1
      exact decide_eq_decide.mpr ⟨fun h => h.symm, fun h => h.symm⟩
  simp [h1 S0 σ S s a ha, vNotIn, vHas, asD, flat_map hf, hm]
theorem flat_I : ∀ a, flatD (eI a) = true := fun _ => rfl
theorem flat_S : ∀ a, flatD (eS a) = true := fun _ => rfl
theorem eqv_I : ∀ a b, PyData.eqv (eI a) (eI b) = decide (a = b) := fun a b => by simp
theorem eqv_S : ∀ a b, PyData.eqv (eS a) (eS b) = decide (a = b) := fun a b => by simp [PyData.eqv, beq_str]
/-! ### built-in functions -/
theorem tLenL : G1T vLen (eL e) eI (fun xs => some (xs.length : Int)) := fun S a b h => by cases h; simp
theorem tLenV : G1T vLen (eV e) eI (fun xs => some (xs.length : Int)) := fun S a b h => by cases h; simp
theorem tLenP : G1T vLen (eP e f) eI (fun _ => some 2) := fun S a b h => by cases h; simp
theorem tAbs : G1T (vInt1 absI) eI eI (fun a => some (absI a)) := fun S a b h => by cases h; rfl
theorem tInt : G1T vInt eI eI (fun a => some a) := fun S a b h => by cases h; rfl
theorem tIntB : G1T vInt eB eI (fun a => some (if a = true then 1 else 0)) := fun S a b h => by cases h; rfl
theorem tMax : G2T (vInt22 maxI) eI eI eI (fun a b => some (maxI a b)) := fun S a b c h => by cases h; rfl
theorem tMin : G2T (vInt22 minI) eI eI eI (fun a b => some (minI a b)) := fun S a b c h => by cases h; rfl
theorem tSumL : G1T vSum (eL eI) eI (fun xs => some xs.sum) := fun S a b h => by cases h; simp [vSum]
theorem tSumV : G1T vSum (eV eI) eI (fun xs => some xs.sum) := fun S a b h => by cases h; simp [vSum]
theorem tAll : G1T vAll (eL eB) eB (fun xs => some (xs.all id)) := fun S a b h => by cases h; simp [vAll]
theorem tAny : G1T vAny (eL eB) eB (fun xs => some (xs.any id)) := fun S a b h => by cases h; simp [vAny]
theorem tMaxL : G1T vMaxL (eL eI) eI pMaxL := fun S a b h => by
  cases a with
  | nil => cases h
  | cons x xs => cases h; simp [vMaxL]
theorem tMinL : G1T vMinL (eL eI) eI pMinL := fun S a b h => by
  cases a with
  | nil => cases h
  | cons x xs => cases h; simp [vMinL]
theorem tTupL : G1T vTuple (eL e) (eV e) (fun xs => some xs) := fun S a b h => by cases h; simp [vTuple]
theorem tTupV : G1T vTuple (eV e) (eV e) (fun xs => some xs) := fun S a b h => by cases h; simp [vTuple]
theorem tLstL : G1T vList (eL e) (eL e) (fun xs => some xs) := fun S a b h => by cases h; simp [vList]
theorem tLstV : G1T vList (eV e) (eL e) (fun xs => some xs) := fun S a b h => by cases h; simp [vList]
/-- isinstance of a value of a known type -/
theorem Ev.isi {m : ME} {p : Option α} {T : String} {b : Bool} (hb : ∀ S a, vIsi S (.d (e a)) (.v (.ty T)) = some (.d (.bool b))) (h1 : Ev L m e p) : Ev L (mCall (pure2 vIsi) (mCons m (mCons (mC (.v (.ty T))) mNil))) eB (p.map fun _ => b) := fun S0 σ S s v hv => by
  rw [Option.map_eq_some_iff] at hv
  obtain ⟨a, ha, rfl⟩ := hv
  simp [h1 S0 σ S s a ha, hb]
/-! ranges as lists -/
def pRangeL (lo hi : Int) : Option (List Int) := (pRange lo hi).bind pFit
theorem rgOk_by {lo hi : Int} {xs : List Int} (h : pRangeL lo hi = some xs) : rgOk lo hi = true ∧ xs = pRange.rangeI lo (hi - lo).toNat := by
  obtain ⟨ys, h1, h2⟩ := bs h
  obtain ⟨q1, q2, q3⟩ := pRange_some h1
  obtain ⟨rfl, _, q4⟩ := pFit_some h2
  refine ⟨?_, q3⟩
  have e1 := congrArg List.length (rangeD_I (hi - lo).toNat lo)
  rw [rangeD_len, List.length_map, ← q3] at e1
  unfold rgOk
  rw [q1, q2]
  simp only [Bool.true_and]
  exact says_true (by omega)
theorem Ev.rgL1 {m : ME} {p : Option Int} (h1 : Ev L m eI p) : Ev L (mListR (rg1 m)) (eL eI) (pB1 (pRangeL 0) p) := fun S0 σ S s v hv => by
  obtain ⟨a, ha, hv⟩ := bs hv
  obtain ⟨q, rfl⟩ := rgOk_by hv
  simp [h1 S0 σ S s a ha, q, rangeD_I]
theorem Ev.rgL2 {m1 m2 : ME} {p1 p2 : Option Int} (h1 : Ev L m1 eI p1) (h2 : Ev L m2 eI p2) : Ev L (mListR (rg2 m1 m2)) (eL eI) (pB2 pRangeL p1 p2) := fun S0 σ S s v hv => by
  obtain ⟨a, ha, hv⟩ := bs hv
  obtain ⟨b, hb, hv⟩ := bs hv
  obtain ⟨q, rfl⟩ := rgOk_by hv
  simp [h1 S0 σ S s a ha, h2 S0 σ S s b hb, q, rangeD_I]
theorem Ev.rgT1 {m : ME} {p : Option Int} (h1 : Ev L m eI p) : Ev L (mTupR (rg1 m)) (eV eI) (pB1 (pRangeL 0) p) := fun S0 σ S s v hv => by
  obtain ⟨a, ha, hv⟩ := bs hv
  obtain ⟨q, rfl⟩ := rgOk_by hv
  simp [h1 S0 σ S s a ha, q, rangeD_I]
theorem Ev.rgT2 {m1 m2 : ME} {p1 p2 : Option Int} (h1 : Ev L m1 eI p1) (h2 : Ev L m2 eI p2) : Ev L (mTupR (rg2 m1 m2)) (eV eI) (pB2 pRangeL p1 p2) := fun S0 σ S s v hv => by
  obtain ⟨a, ha, hv⟩ := bs hv
  obtain ⟨b, hb, hv⟩ := bs hv
  obtain ⟨q, rfl⟩ := rgOk_by hv
  simp [h1 S0 σ S s a ha, h2 S0 σ S s b hb, q, rangeD_I]
/-! ### a dict written in the text, asked at once -/
def EvPr (L : List Sl) (r : MPr) (e : Enc α) (p : Option (List (Key × α))) : Prop := ∀ S0 σ S, Sat S0 L σ S → ∀ kvs, p = some kvs → r σ S = some (kvs.map (eKV (fun k => k) e), S)
theorem EvPr.nil : EvPr L mPr0 e (some []) := fun S0 σ S s kvs hv => by cases hv; rfl
theorem EvPr.cons {k : Key} {m : ME} {r : MPr} {p : Option α} {q : Option (List (Key × α))} (h1 : Ev L m e p) (h2 : EvPr L r e q) : EvPr L (mPr k m r) e (pB2 (fun a kvs => some ((k, a) :: kvs)) p q) := fun S0 σ S s v hv => by
  obtain ⟨a, ha, hv⟩ := bs hv
  obtain ⟨b, hb, hv⟩ := bs hv
  cases hv
  simp [h1 S0 σ S s a ha, h2 S0 σ S s b hb]
def pDisp (kvs : List (Key × α)) (k : Key) : Option α := if Nat.ble kvs.length 15 = true then valT (kvs.foldl (fun acc kv => putT acc kv.1 kv.2) []) k else none
theorem foldl_map (e : Enc α) : ∀ (kvs acc : List (Key × α)), (kvs.map (eKV (fun k => k) e)).foldl (fun acc kv => putD acc kv.1 kv.2) (acc.map (eKV (fun k => k) e)) = (kvs.foldl (fun acc kv => putT acc kv.1 kv.2) acc).map (eKV (fun k => k) e)
  | [], acc => rfl
  | kv :: kvs, acc => by
    simp only [List.map_cons, List.foldl_cons]
    rw [putD_map (kk := fun k => k) (fun a b h => h)]
    exact foldl_map e kvs _
theorem Ev.disp {κ : Type} [DecidableEq κ] {ek : Enc κ} {kk : κ → Key} (K : KK ek kk) {r : MPr} {mi : ME} {p : Option (List (Key × α))} {pk : Option κ} (h1 : EvPr L r e p) (h2 : Ev L mi ek pk) : Ev L (mTmp (mBin vDGet (mDisp r) mi)) e (pB2 (fun kvs k => pDisp kvs (kk k)) p pk) := fun S0 σ S s v hv => by
  obtain ⟨kvs, ha, hv⟩ := bs hv
  obtain ⟨k, hb, hv⟩ := bs hv
  have hv : (if Nat.ble kvs.length 15 = true then valT (kvs.foldl (fun acc kv => putT acc kv.1 kv.2) []) (kk k) else Option.none) = some v := hv
  split at hv
  · rename_i hl
    have hl : kvs.length ≤ 15 := Nat.le_of_ble_eq_true hl
    have s1 := s.push (.dK [])
    have hf := foldl_map e kvs []
    have s2 := s.push (.dK ((kvs.foldl (fun acc kv => putT acc kv.1 kv.2) []).map (eKV (fun k => k) e)))
    have hv' := valD_map (e := e) (kk := fun k => k) (fun a b h => h) (kvs.foldl (fun acc kv => putT acc kv.1 kv.2) []) (kk k)
    rw [hv] at hv'
    simp only [List.map_nil] at hf
    simp [mTmp, mDisp, h1 S0 σ _ s1 kvs ha, hl, hf, h2 S0 σ _ s2 k hb, vDGet, lookD, K.key, hv']
  · cases hv
/-! ### a def that hands back an own object -/
def StFM {ρ : Type} (L : List Sl) (m : MS) (fo : ρ → O) (p : Option ρ) : Prop := ∀ S0 σ S, Sat S0 L σ S → ∀ r, p = some r → ∃ n S', m σ S = some (.rt (.loc n) S') ∧ S0.length ≤ n ∧ S'[n]? = some (fo r) ∧ S'.take S0.length = S0
theorem StFM.ret {ρ : Type} {fo : ρ → O} (i : Nat) {v : ρ} (hL : L[i]? = some (.m (fo v)) := by rfl) : StFM L (mRet (mVar i)) fo (some v) := fun S0 σ S s r hr => by
  cases hr
  obtain ⟨g, g1, _⟩ := s.m
  obtain ⟨a, b, c⟩ := g1 i _ hL
  exact ⟨g i, S, by simp [a], b, c, s.base⟩
theorem StFM.seqN {ρ : Type} {fo : ρ → O} {m1 m2 : MS} {p1 : Option α} {p2 : α → Option ρ} {L1 : α → List Sl} (h1 : StN L m1 p1 L1) (h2 : ∀ a, StFM (L1 a) m2 fo (p2 a)) : StFM L (mSeq m1 m2) fo (p1.bind p2) := fun S0 σ S s r hr => by
  obtain ⟨a, ha, hr⟩ := bs hr
  obtain ⟨σ', S', h3, h4⟩ := h1 S0 σ S s a ha
  obtain ⟨n, S2, h5, h6⟩ := h2 a S0 σ' S' h4 r hr
  exact ⟨n, S2, by simp [h3, h5], h6⟩
theorem fn_stM {ρ : Type} {fo : ρ → O} {n : Nat} {b : MS} {p : Option ρ} (ws : List D) (h1 : StFM (ws.map (fun d => Sl.w (.d d)) ++ List.replicate (n - ws.length) .j) b fo p) (S : Sto) (r : ρ) (hr : p = some r) : fnD n b (ws.map W.d) S = some (.loc S.length, S ++ [fo r]) := by
  obtain ⟨k, S', h2, h3, h4, h5⟩ := h1 S _ S (sat_start S n ws) r hr
  unfold fnD
  have : (List.map some (List.map W.d ws) ++ List.replicate (n - (List.map W.d ws).length) none : Env) = (ws.map (fun d => some (W.d d)) ++ List.replicate (n - ws.length) none) := by simp
  rw [this, h2]
  simp [trim, h3, h4, h5]
end
end DL

set_option Elab.async false
set_option linter.all false
set_option maxRecDepth 100000
set_option autoImplicit false
/-! The typed layer for defs that draw (or fill a table that was handed in): what they come to, whatever is drawn. -/
noncomputable section
namespace DL
open PySem PySem.Spec PyProof.Rows L2
abbrev Dm (st α : Type) := st → (α → st → Prop) → Prop
section
variable {st α β γ δ ρ : Type}
@[simp] def dBind (m : Dm st α) (f : α → Dm st β) : Dm st β := fun s Q => m s fun a s' => f a s' Q
@[simp] def dOpt (p : Option α) : Dm st α := fun s Q => ∃ a, p = some a ∧ Q a s
@[simp] def dOptS (p : st → Option α) : Dm st α := fun s Q => ∃ a, p s = some a ∧ Q a s
@[simp] def dMap (f : α → β) (m : Dm st α) : Dm st β := fun s Q => m s fun a s' => Q (f a) s'
@[simp] def dIf (t : Dm st Bool) (a b : Dm st α) : Dm st α := fun s Q => t s fun c s' => if c = true then a s' Q else b s' Q
/-- some number less than u is drawn -/
def dTake {τ : Type} (u : Int) : Dm (Int × τ) Int := fun s Q => 0 < u ∧ u < 18446744073709551616 ∧ s.1 < 1000000 ∧ ∀ d, 0 ≤ d → d < u → Q d (s.1 + 1, s.2)
def dComp (t : α → Dm st Bool) (m : α → Dm st β) : List α → Dm st (List β)
  | [] => fun s Q => Q [] s
  | x :: xs => fun s Q => t x s fun c s1 => if c = true then m x s1 fun y s2 => dComp t m xs s2 fun ys s3 => Q (y :: ys) s3 else dComp t m xs s1 Q
def dFor (b : α → β → Dm st α) : List β → α → Dm st α
  | [], a => fun s Q => Q a s
  | x :: xs, a => fun s Q => b a x s fun a' s' => dFor b xs a' s' Q
def dForR (b : α → β → Dm st (α ⊕ ρ)) : List β → α → Dm st (α ⊕ ρ)
  | [], a => fun s Q => Q (.inl a) s
  | x :: xs, a => fun s Q => b a x s fun r s' => match r with
    | .inl a' => dForR b xs a' s' Q
    | .inr r => Q (.inr r) s'
def dWhile (c : α → Dm st Bool) (b : α → Dm st α) : Nat → α → Dm st α
  | 0, _ => fun _ _ => False
  | n + 1, a => fun s Q => c a s fun k s1 => if k = true then b a s1 fun a' s2 => dWhile c b n a' s2 Q else Q a s1
@[simp] def dSeqR {α' : Type} (p : Dm st (α ⊕ ρ)) (q : α → Dm st (α' ⊕ ρ)) : Dm st (α' ⊕ ρ) := fun s Q => p s fun r s' => match r with
  | .inl a => q a s' Q
  | .inr r => Q (.inr r) s'
@[simp] def dSeqF (p : Dm st (α ⊕ ρ)) (q : α → Dm st ρ) : Dm st ρ := fun s Q => p s fun r s' => match r with
  | .inl a => q a s' Q
  | .inr r => Q r s'
end
abbrev WP {τ : Type} : Int × τ → O → Prop := fun s o => Pot s.1 o
section
variable {st : Type} {n : Nat} {Wd : st → O → Prop} {L : st → List Sl} {α β γ δ ρ : Type} {e : Enc α} {f : Enc β} {h : Enc γ} {o4 : Enc δ} {er : Enc ρ}
def DvE (n : Nat) (Wd : st → O → Prop) (L : st → List Sl) (m : ME) (e : Enc α) (d : Dm st α) : Prop := ∀ (S0 : Sto) (σ : Env) (S : Sto) (s : st) (o : O) Q, n < S0.length → Sat (S0.set n o) (L s) σ S → Wd s o → d s Q → ∃ a s' o' S', m σ S = some (.d (e a), S') ∧ Q a s' ∧ Sat (S0.set n o') (L s') σ S' ∧ Wd s' o'
def DvT (n : Nat) (Wd : st → O → Prop) (L : st → List Sl) (m : MT) (d : Dm st Bool) : Prop := ∀ (S0 : Sto) (σ : Env) (S : Sto) (s : st) (o : O) Q, n < S0.length → Sat (S0.set n o) (L s) σ S → Wd s o → d s Q → ∃ a s' o' S', m σ S = some (a, S') ∧ Q a s' ∧ Sat (S0.set n o') (L s') σ S' ∧ Wd s' o'
def DvL (n : Nat) (Wd : st → O → Prop) (L : st → List Sl) (m : MA) (e : Enc α) (d : Dm st (List α)) : Prop := ∀ (S0 : Sto) (σ : Env) (S : Sto) (s : st) (o : O) Q, n < S0.length → Sat (S0.set n o) (L s) σ S → Wd s o → d s Q → ∃ (a : List α) (s' : st) (o' : O) (S' : Sto), m σ S = some (a.map fun v => .d (e v), S') ∧ Q a s' ∧ Sat (S0.set n o') (L s') σ S' ∧ Wd s' o'
def DvI (n : Nat) (Wd : st → O → Prop) (L : st → List Sl) (m : MI) (e : Enc α) (d : Dm st (List α)) : Prop := ∀ (S0 : Sto) (σ : Env) (S : Sto) (s : st) (o : O) Q, n < S0.length → Sat (S0.set n o) (L s) σ S → Wd s o → d s Q → ∃ (a : List α) (s' : st) (o' : O) (S' : Sto), m σ S = some (a.map e, S') ∧ Q a s' ∧ Sat (S0.set n o') (L s') σ S' ∧ Wd s' o'
def DvN (n : Nat) (Wd : st → O → Prop) (L : st → List Sl) (m : MS) (d : Dm st α) (L1 : α → st → List Sl) : Prop := ∀ (S0 : Sto) (σ : Env) (S : Sto) (s : st) (o : O) Q, n < S0.length → Sat (S0.set n o) (L s) σ S → Wd s o → d s Q → ∃ a s' o' σ' S', m σ S = some (.nx σ' S') ∧ Q a s' ∧ Sat (S0.set n o') (L1 a s') σ' S' ∧ Wd s' o'
def DvF (n : Nat) (Wd : st → O → Prop) (L : st → List Sl) (m : MS) (e : Enc ρ) (d : Dm st ρ) : Prop := ∀ (S0 : Sto) (σ : Env) (S : Sto) (s : st) (o : O) Q, n < S0.length → Sat (S0.set n o) (L s) σ S → Wd s o → d s Q → ∃ r s' o' S', m σ S = some (.rt (.d (e r)) S') ∧ Q r s' ∧ S'.take S0.length = S0.set n o' ∧ Wd s' o'
def DvR (n : Nat) (Wd : st → O → Prop) (L : st → List Sl) (m : MS) (e : Enc ρ) (d : Dm st (α ⊕ ρ)) (L1 : α → st → List Sl) : Prop := ∀ (S0 : Sto) (σ : Env) (S : Sto) (s : st) (o : O) Q, n < S0.length → Sat (S0.set n o) (L s) σ S → Wd s o → d s Q →
  (∃ a s' o' σ' S', m σ S = some (.nx σ' S') ∧ Q (.inl a) s' ∧ Sat (S0.set n o') (L1 a s') σ' S' ∧ Wd s' o') ∨ ∃ r s' o' S', m σ S = some (.rt (.d (e r)) S') ∧ Q (.inr r) s' ∧ S'.take S0.length = S0.set n o' ∧ Wd s' o'
/-- a def: the object at n is what it draws from, or fills -/
def DrF (Wd : st → O → Prop) (F : Fn) (ws : Nat → List W) (er : Enc ρ) (d : Dm st ρ) : Prop := ∀ (S : Sto) (n : Nat) (s : st) (o : O) Q, S[n]? = some o → Wd s o → d s Q → ∃ r s' o', F (ws n) S = some (.d (er r), S.set n o') ∧ Q r s' ∧ Wd s' o'
theorem Sat.atN {S0 : Sto} {L : List Sl} {σ : Env} {S : Sto} {o : O} (hn : n < S0.length) (s : Sat (S0.set n o) L σ S) : S[n]? = some o := by
  have h1 := s.base
  rw [List.length_set] at h1
  have : (S.take S0.length)[n]? = some o := by rw [h1, List.getElem?_set_self hn]
  rw [List.getElem?_take_of_lt hn] at this
  exact this
theorem Sat.setB {S0 : Sto} {L : List Sl} {σ : Env} {S : Sto} {o : O} (hn : n < S0.length) (s : Sat (S0.set n o) L σ S) (o' : O) : Sat (S0.set n o') L σ (S.set n o') := by
  refine ⟨s.len, ?_, s.w, ?_⟩
  · have h1 := s.base
    rw [List.length_set] at h1 ⊢
    rw [List.take_set, h1, List.set_set]
  · obtain ⟨g, g1, g2⟩ := s.m
    refine ⟨g, fun i o2 e => ?_, g2⟩
    obtain ⟨a, b, c⟩ := g1 i o2 e
    rw [List.length_set] at b ⊢
    refine ⟨a, b, ?_⟩
    rw [List.getElem?_set_ne (by omega)]
    exact c
theorem DvE.pure {m : ME} {p : Option α} (h1 : ∀ s, Ev (L s) m e p) : DvE n Wd L m e (dOpt p) := fun S0 σ S s o Q hn hs hw ⟨a, ha, hq⟩ => ⟨a, s, o, S, h1 s _ σ S hs a ha, hq, hs, hw⟩
theorem DvE.pureS {m : ME} {p : st → Option α} (h1 : ∀ s, Ev (L s) m e (p s)) : DvE n Wd L m e (dOptS p) := fun S0 σ S s o Q hn hs hw ⟨a, ha, hq⟩ => ⟨a, s, o, S, h1 s _ σ S hs a ha, hq, hs, hw⟩
theorem DvT.pure {m : MT} {p : Option Bool} (h1 : ∀ s, Te (L s) m p) : DvT n Wd L m (dOpt p) := fun S0 σ S s o Q hn hs hw ⟨a, ha, hq⟩ => ⟨a, s, o, S, h1 s _ σ S hs a ha, hq, hs, hw⟩
theorem DvI.pure {m : MI} {p : Option (List α)} (h1 : ∀ s, It (L s) m e p) : DvI n Wd L m e (dOpt p) := fun S0 σ S s o Q hn hs hw ⟨a, ha, hq⟩ => ⟨a, s, o, S, h1 s _ σ S hs a ha, hq, hs, hw⟩
theorem DvN.pure {m : MS} {p : Option α} {L1 : α → st → List Sl} (h1 : ∀ s, StN (L s) m p (fun a => L1 a s)) : DvN n Wd L m (dOpt p) L1 := fun S0 σ S s o Q hn hs hw ⟨a, ha, hq⟩ => by
  obtain ⟨σ', S', g1, g2⟩ := h1 s _ σ S hs a ha
  exact ⟨a, s, o, σ', S', g1, hq, g2, hw⟩
theorem DvF.pure {m : MS} {p : Option ρ} (h1 : ∀ s, StF (L s) m er p) : DvF n Wd L m er (dOpt p) := fun S0 σ S s o Q hn hs hw ⟨a, ha, hq⟩ => by
  obtain ⟨S', g1, g2⟩ := h1 s _ σ S hs a ha
  rw [List.length_set] at g2
  exact ⟨a, s, o, S', g1, hq, g2, hw⟩
theorem DvE.take {τ : Type} {L : Int × τ → List Sl} (i : Nat) {F : Fn} (hF : FnTake F) {mu : ME} {du : Dm (Int × τ) Int} (h1 : DvE n WP L mu eI du) (hL : ∀ s, (L s)[i]? = some (.w (.loc n)) := by intro _; rfl) (hk : ∀ k k' t, L (k, t) = L (k', t) := by intros; rfl) :
    DvE n WP L (mCallF 2 F (mCons (mVar i) (mCons mu mNil))) eI (dBind du dTake) := fun S0 σ S s o Q hn hs hw hd => by
  obtain ⟨u, s1, o1, S1, g1, ⟨g2, g3, g4, g5⟩, g6, g7⟩ := h1 S0 σ S s o _ hn hs hw hd
  obtain ⟨d, o2, k1, k2, k3, k4⟩ := hF n S1 s1.1 u o1 (g6.atN hn) g7 g4 g2 g3
  have h0 := hs.w i _ (hL s)
  refine ⟨d, (s1.1 + 1, s1.2), o2, S1.set n o2, by simp [h0, g1, k1], g5 d k2 k3, ?_, k4⟩
  rw [hk (s1.1 + 1) s1.1]
  exact g6.setB hn o2
theorem DvE.bin {g : G2} {op : α → β → Option γ} {m1 m2 : ME} {d1 : Dm st α} {d2 : Dm st β} (hg : G2T g e f h op) (h1 : DvE n Wd L m1 e d1) (h2 : DvE n Wd L m2 f d2) : DvE n Wd L (mBin g m1 m2) h (dBind d1 fun a => dBind d2 fun b => dOpt (op a b)) := fun S0 σ S s o Q hn hs hw hd => by
  obtain ⟨a, s1, o1, S1, g1, g2, g3, g4⟩ := h1 S0 σ S s o _ hn hs hw hd
  obtain ⟨b, s2, o2, S2, k1, k2, k3, k4⟩ := h2 S0 σ S1 s1 o1 _ hn g3 g4 g2
  obtain ⟨c, hc, hq⟩ := k2
  exact ⟨c, s2, o2, S2, by simp [g1, k1, hg S2 a b c hc], hq, k3, k4⟩
theorem DvE.un {g : G1} {op : α → Option β} {m1 : ME} {d1 : Dm st α} (hg : G1T g e f op) (h1 : DvE n Wd L m1 e d1) : DvE n Wd L (mUn g m1) f (dBind d1 fun a => dOpt (op a)) := fun S0 σ S s o Q hn hs hw hd => by
  obtain ⟨a, s1, o1, S1, g1, ⟨c, hc, hq⟩, g3, g4⟩ := h1 S0 σ S s o _ hn hs hw hd
  exact ⟨c, s1, o1, S1, by simp [g1, hg S1 a c hc], hq, g3, g4⟩
theorem DvE.c1 {g : Sto → W → Option W} {op : α → Option β} {m : ME} {d1 : Dm st α} (hg : G1T g e f op) (h1 : DvE n Wd L m e d1) : DvE n Wd L (mCall (pure1 g) (mCons m mNil)) f (dBind d1 fun a => dOpt (op a)) := fun S0 σ S s o Q hn hs hw hd => by
  obtain ⟨a, s1, o1, S1, g1, ⟨c, hc, hq⟩, g3, g4⟩ := h1 S0 σ S s o _ hn hs hw hd
  exact ⟨c, s1, o1, S1, by simp [g1, hg S1 a c hc], hq, g3, g4⟩
theorem DvE.c2 {g : Sto → W → W → Option W} {op : α → β → Option γ} {m1 m2 : ME} {d1 : Dm st α} {d2 : Dm st β} (hg : G2T g e f h op) (h1 : DvE n Wd L m1 e d1) (h2 : DvE n Wd L m2 f d2) : DvE n Wd L (mCall (pure2 g) (mCons m1 (mCons m2 mNil))) h (dBind d1 fun a => dBind d2 fun b => dOpt (op a b)) := fun S0 σ S s o Q hn hs hw hd => by
  obtain ⟨a, s1, o1, S1, g1, g2, g3, g4⟩ := h1 S0 σ S s o _ hn hs hw hd
  obtain ⟨b, s2, o2, S2, k1, ⟨c, hc, hq⟩, k3, k4⟩ := h2 S0 σ S1 s1 o1 _ hn g3 g4 g2
  exact ⟨c, s2, o2, S2, by simp [g1, k1, hg S2 a b c hc], hq, k3, k4⟩
theorem DvE.map {m : ME} {d1 : Dm st α} (h1 : DvE n Wd L m e d1) (g : α → β) (hg : ∀ a, f (g a) = e a) : DvE n Wd L m f (dMap g d1) := fun S0 σ S s o Q hn hs hw hd => by
  obtain ⟨a, s1, o1, S1, g1, g2, g3, g4⟩ := h1 S0 σ S s o _ hn hs hw hd
  exact ⟨g a, s1, o1, S1, by rw [hg]; exact g1, g2, g3, g4⟩
theorem DvE.pair {m1 m2 : ME} {d1 : Dm st α} {d2 : Dm st β} (h1 : DvE n Wd L m1 e d1) (h2 : DvE n Wd L m2 f d2) : DvE n Wd L (mTup (mCons m1 (mCons m2 mNil))) (eP e f) (dBind d1 fun a => dBind d2 fun b => dOpt (some (a, b))) := fun S0 σ S s o Q hn hs hw hd => by
  obtain ⟨a, s1, o1, S1, g1, g2, g3, g4⟩ := h1 S0 σ S s o _ hn hs hw hd
  obtain ⟨b, s2, o2, S2, k1, ⟨c, hc, hq⟩, k3, k4⟩ := h2 S0 σ S1 s1 o1 _ hn g3 g4 g2
  cases hc
  have : fits 2 = true := by decide
  exact ⟨(a, b), s2, o2, S2, by simp [g1, k1, this], hq, k3, k4⟩
theorem DvE.trip {m1 m2 m3 : ME} {d1 : Dm st α} {d2 : Dm st β} {d3 : Dm st γ} (h1 : DvE n Wd L m1 e d1) (h2 : DvE n Wd L m2 f d2) (h3 : DvE n Wd L m3 h d3) : DvE n Wd L (mTup (mCons m1 (mCons m2 (mCons m3 mNil)))) (eP3 e f h) (dBind d1 fun a => dBind d2 fun b => dBind d3 fun c => dOpt (some (a, b, c))) := fun S0 σ S s o Q hn hs hw hd => by
  obtain ⟨a, s1, o1, S1, g1, g2, g3, g4⟩ := h1 S0 σ S s o _ hn hs hw hd
  obtain ⟨b, s2, o2, S2, k1, k2, k3, k4⟩ := h2 S0 σ S1 s1 o1 _ hn g3 g4 g2
  obtain ⟨c, s3, o3, S3, l1, ⟨x, hc, hq⟩, l3, l4⟩ := h3 S0 σ S2 s2 o2 _ hn k3 k4 k2
  cases hc
  have : fits 3 = true := by decide
  exact ⟨(a, b, c), s3, o3, S3, by simp [g1, k1, l1, this], hq, l3, l4⟩
theorem DvL.nil : DvL n Wd L mNil e (dOpt (some [])) := fun S0 σ S s o Q hn hs hw ⟨a, ha, hq⟩ => by
  cases ha
  exact ⟨[], s, o, S, rfl, hq, hs, hw⟩
theorem DvL.cons {m1 : ME} {m : MA} {d1 : Dm st α} {d2 : Dm st (List α)} (h1 : DvE n Wd L m1 e d1) (h2 : DvL n Wd L m e d2) : DvL n Wd L (mCons m1 m) e (dBind d1 fun a => dMap (fun as => a :: as) d2) := fun S0 σ S s o Q hn hs hw hd => by
  obtain ⟨a, s1, o1, S1, g1, g2, g3, g4⟩ := h1 S0 σ S s o _ hn hs hw hd
  obtain ⟨b, s2, o2, S2, k1, k2, k3, k4⟩ := h2 S0 σ S1 s1 o1 _ hn g3 g4 g2
  exact ⟨a :: b, s2, o2, S2, by simp [g1, k1], k2, k3, k4⟩
theorem DvE.vtup {m : MA} {d1 : Dm st (List α)} (h1 : DvL n Wd L m e d1) : DvE n Wd L (mTup m) (eV e) (dBind d1 fun a => dOpt (pFit a)) := fun S0 σ S s o Q hn hs hw hd => by
  obtain ⟨a, s1, o1, S1, g1, ⟨c, hc, hq⟩, g3, g4⟩ := h1 S0 σ S s o _ hn hs hw hd
  obtain ⟨rfl, hf, _⟩ := pFit_some hc
  exact ⟨c, s1, o1, S1, by simp [g1, asDs_map, hf], hq, g3, g4⟩
theorem DvE.lst {m : MA} {d1 : Dm st (List α)} (h1 : DvL n Wd L m e d1) : DvE n Wd L (mLst m) (eL e) (dBind d1 fun a => dOpt (pFit a)) := fun S0 σ S s o Q hn hs hw hd => by
  obtain ⟨a, s1, o1, S1, g1, ⟨c, hc, hq⟩, g3, g4⟩ := h1 S0 σ S s o _ hn hs hw hd
  obtain ⟨rfl, hf, _⟩ := pFit_some hc
  exact ⟨c, s1, o1, S1, by simp [g1, asDs_map, hf], hq, g3, g4⟩
theorem DvT.b {m1 : ME} {d1 : Dm st Bool} (h1 : DvE n Wd L m1 eB d1) : DvT n Wd L (mB m1) d1 := fun S0 σ S s o Q hn hs hw hd => by
  obtain ⟨a, s1, o1, S1, g1, g2, g3, g4⟩ := h1 S0 σ S s o _ hn hs hw hd
  exact ⟨a, s1, o1, S1, by simp [g1], g2, g3, g4⟩
theorem DvT.and {m1 m2 : MT} {d1 d2 : Dm st Bool} (h1 : DvT n Wd L m1 d1) (h2 : DvT n Wd L m2 d2) : DvT n Wd L (mAndT m1 m2) (dIf d1 d2 (dOpt (some false))) := fun S0 σ S s o Q hn hs hw hd => by
  obtain ⟨a, s1, o1, S1, g1, g2, g3, g4⟩ := h1 S0 σ S s o _ hn hs hw hd
  cases a with
  | true =>
    obtain ⟨b, s2, o2, S2, k1, k2, k3, k4⟩ := h2 S0 σ S1 s1 o1 Q hn g3 g4 (by simpa using g2)
    exact ⟨b, s2, o2, S2, by simp [g1, k1], k2, k3, k4⟩
  | false =>
    obtain ⟨c, hc, hq⟩ := (show ∃ a, some false = some a ∧ Q a s1 by simpa using g2)
    cases hc
    exact ⟨false, s1, o1, S1, by simp [g1], hq, g3, g4⟩
theorem DvT.or {m1 m2 : MT} {d1 d2 : Dm st Bool} (h1 : DvT n Wd L m1 d1) (h2 : DvT n Wd L m2 d2) : DvT n Wd L (mOrT m1 m2) (dIf d1 (dOpt (some true)) d2) := fun S0 σ S s o Q hn hs hw hd => by
  obtain ⟨a, s1, o1, S1, g1, g2, g3, g4⟩ := h1 S0 σ S s o _ hn hs hw hd
  cases a with
  | false =>
    obtain ⟨b, s2, o2, S2, k1, k2, k3, k4⟩ := h2 S0 σ S1 s1 o1 Q hn g3 g4 (by simpa using g2)
    exact ⟨b, s2, o2, S2, by simp [g1, k1], k2, k3, k4⟩
  | true =>
    obtain ⟨c, hc, hq⟩ := (show ∃ a, some true = some a ∧ Q a s1 by simpa using g2)
    cases hc
    exact ⟨true, s1, o1, S1, by simp [g1], hq, g3, g4⟩
theorem DvT.not {m1 : MT} {d1 : Dm st Bool} (h1 : DvT n Wd L m1 d1) : DvT n Wd L (mNotT m1) (dMap (fun c => !c) d1) := fun S0 σ S s o Q hn hs hw hd => by
  obtain ⟨a, s1, o1, S1, g1, g2, g3, g4⟩ := h1 S0 σ S s o _ hn hs hw hd
  exact ⟨!a, s1, o1, S1, by simp [g1], g2, g3, g4⟩
theorem DvE.and {m1 m2 : ME} {d1 d2 : Dm st Bool} (h1 : DvE n Wd L m1 eB d1) (h2 : DvE n Wd L m2 eB d2) : DvE n Wd L (mAnd m1 m2) eB (dIf d1 d2 (dOpt (some false))) := fun S0 σ S s o Q hn hs hw hd => by
  obtain ⟨a, s1, o1, S1, g1, g2, g3, g4⟩ := h1 S0 σ S s o _ hn hs hw hd
  cases a with
  | true =>
    obtain ⟨b, s2, o2, S2, k1, k2, k3, k4⟩ := h2 S0 σ S1 s1 o1 Q hn g3 g4 (by simpa using g2)
    exact ⟨b, s2, o2, S2, by simp [g1, k1], k2, k3, k4⟩
  | false =>
    obtain ⟨c, hc, hq⟩ := (show ∃ a, some false = some a ∧ Q a s1 by simpa using g2)
    cases hc
    exact ⟨false, s1, o1, S1, by simp [g1], hq, g3, g4⟩
theorem DvE.or {m1 m2 : ME} {d1 d2 : Dm st Bool} (h1 : DvE n Wd L m1 eB d1) (h2 : DvE n Wd L m2 eB d2) : DvE n Wd L (mOr m1 m2) eB (dIf d1 (dOpt (some true)) d2) := fun S0 σ S s o Q hn hs hw hd => by
  obtain ⟨a, s1, o1, S1, g1, g2, g3, g4⟩ := h1 S0 σ S s o _ hn hs hw hd
  cases a with
  | false =>
    obtain ⟨b, s2, o2, S2, k1, k2, k3, k4⟩ := h2 S0 σ S1 s1 o1 Q hn g3 g4 (by simpa using g2)
    exact ⟨b, s2, o2, S2, by simp [g1, k1], k2, k3, k4⟩
  | true =>
    obtain ⟨c, hc, hq⟩ := (show ∃ a, some true = some a ∧ Q a s1 by simpa using g2)
    cases hc
    exact ⟨true, s1, o1, S1, by simp [g1], hq, g3, g4⟩
theorem DvE.not {m1 : ME} {d1 : Dm st Bool} (h1 : DvE n Wd L m1 eB d1) : DvE n Wd L (mNot m1) eB (dMap (fun c => !c) d1) := fun S0 σ S s o Q hn hs hw hd => by
  obtain ⟨a, s1, o1, S1, g1, g2, g3, g4⟩ := h1 S0 σ S s o _ hn hs hw hd
  exact ⟨!a, s1, o1, S1, by simp [g1], g2, g3, g4⟩
theorem DvE.ite {t : MT} {m1 m2 : ME} {dt : Dm st Bool} {d1 d2 : Dm st α} (ht : DvT n Wd L t dt) (h1 : DvE n Wd L m1 e d1) (h2 : DvE n Wd L m2 e d2) : DvE n Wd L (mIf t m1 m2) e (dIf dt d1 d2) := fun S0 σ S s o Q hn hs hw hd => by
  obtain ⟨a, s1, o1, S1, g1, g2, g3, g4⟩ := ht S0 σ S s o _ hn hs hw hd
  cases a with
  | true =>
    obtain ⟨b, s2, o2, S2, k1, k2, k3, k4⟩ := h1 S0 σ S1 s1 o1 Q hn g3 g4 (by simpa using g2)
    exact ⟨b, s2, o2, S2, by simp [g1, k1], k2, k3, k4⟩
  | false =>
    obtain ⟨b, s2, o2, S2, k1, k2, k3, k4⟩ := h2 S0 σ S1 s1 o1 Q hn g3 g4 (by simpa using g2)
    exact ⟨b, s2, o2, S2, by simp [g1, k1], k2, k3, k4⟩
/-- repr(a) != repr(b): nothing is promised but for equal ones -/
theorem DvE.rep {m1 m2 : ME} {d1 d2 : Dm st α} (h1 : DvE n Wd L m1 e d1) (h2 : DvE n Wd L m2 e d2) : DvE n Wd L (mBin vNe (mCall (pure1 vRepr) (mCons m1 mNil)) (mCall (pure1 vRepr) (mCons m2 mNil))) eB (dBind d1 fun a => dBind d2 fun b => fun s Q => (a = b ∧ showOk (e a) = true) ∧ Q false s) := fun S0 σ S s o Q hn hs hw hd => by
  obtain ⟨a, s1, o1, S1, g1, g2, g3, g4⟩ := h1 S0 σ S s o _ hn hs hw hd
  obtain ⟨b, s2, o2, S2, k1, ⟨⟨rfl, k5⟩, k2⟩, k3, k4⟩ := h2 S0 σ S1 s1 o1 _ hn g3 g4 g2
  refine ⟨false, s2, o2, S2, ?_, k2, k3, k4⟩
  have r1 : ∀ S, vRepr S (.d (e a)) = some (.d (.str (PyData.shown (e a)))) := fun S => repr_d k5
  simp [g1, k1, r1, ne_str_same]
theorem DvE.repE {m1 m2 : ME} {d1 d2 : Dm st α} (h1 : DvE n Wd L m1 e d1) (h2 : DvE n Wd L m2 e d2) : DvE n Wd L (mBin vEq (mCall (pure1 vRepr) (mCons m1 mNil)) (mCall (pure1 vRepr) (mCons m2 mNil))) eB (dBind d1 fun a => dBind d2 fun b => fun s Q => (a = b ∧ showOk (e a) = true) ∧ Q true s) := fun S0 σ S s o Q hn hs hw hd => by
  obtain ⟨a, s1, o1, S1, g1, g2, g3, g4⟩ := h1 S0 σ S s o _ hn hs hw hd
  obtain ⟨b, s2, o2, S2, k1, ⟨⟨rfl, k5⟩, k2⟩, k3, k4⟩ := h2 S0 σ S1 s1 o1 _ hn g3 g4 g2
  refine ⟨true, s2, o2, S2, ?_, k2, k3, k4⟩
  have r1 : ∀ S, vRepr S (.d (e a)) = some (.d (.str (PyData.shown (e a)))) := fun S => repr_d k5
  simp [g1, k1, r1, eq_str_same]
/-! calls of defs that draw nothing, what is handed in may be drawn -/
theorem DvE.f1 {F : Fn} {q : α → Option ρ} {m : ME} {d1 : Dm st α} (hF : FnT1 F e er q) (h1 : DvE n Wd L m e d1) : DvE n Wd L (mCallF 1 F (mCons m mNil)) er (dBind d1 fun a => dOpt (q a)) := fun S0 σ S s o Q hn hs hw hd => by
  obtain ⟨a, s1, o1, S1, g1, ⟨c, hc, hq⟩, g3, g4⟩ := h1 S0 σ S s o _ hn hs hw hd
  exact ⟨c, s1, o1, S1, by simp [g1, hF S1 a c hc], hq, g3, g4⟩
theorem DvE.f2 {F : Fn} {q : α → β → Option ρ} {m1 m2 : ME} {d1 : Dm st α} {d2 : Dm st β} (hF : FnT2 F e f er q) (h1 : DvE n Wd L m1 e d1) (h2 : DvE n Wd L m2 f d2) : DvE n Wd L (mCallF 2 F (mCons m1 (mCons m2 mNil))) er (dBind d1 fun a => dBind d2 fun b => dOpt (q a b)) := fun S0 σ S s o Q hn hs hw hd => by
  obtain ⟨a, s1, o1, S1, g1, g2, g3, g4⟩ := h1 S0 σ S s o _ hn hs hw hd
  obtain ⟨b, s2, o2, S2, k1, ⟨c, hc, hq⟩, k3, k4⟩ := h2 S0 σ S1 s1 o1 _ hn g3 g4 g2
  exact ⟨c, s2, o2, S2, by simp [g1, k1, hF S2 a b c hc], hq, k3, k4⟩
theorem DvE.f3 {F : Fn} {q : α → β → γ → Option ρ} {m1 m2 m3 : ME} {d1 : Dm st α} {d2 : Dm st β} {d3 : Dm st γ} (hF : FnT3 F e f h er q) (h1 : DvE n Wd L m1 e d1) (h2 : DvE n Wd L m2 f d2) (h3 : DvE n Wd L m3 h d3) : DvE n Wd L (mCallF 3 F (mCons m1 (mCons m2 (mCons m3 mNil)))) er (dBind d1 fun a => dBind d2 fun b => dBind d3 fun c => dOpt (q a b c)) := fun S0 σ S s o Q hn hs hw hd => by
  obtain ⟨a, s1, o1, S1, g1, g2, g3, g4⟩ := h1 S0 σ S s o _ hn hs hw hd
  obtain ⟨b, s2, o2, S2, k1, k2, k3, k4⟩ := h2 S0 σ S1 s1 o1 _ hn g3 g4 g2
  obtain ⟨c, s3, o3, S3, l1, ⟨x, hc, hq⟩, l3, l4⟩ := h3 S0 σ S2 s2 o2 _ hn k3 k4 k2
  exact ⟨x, s3, o3, S3, by simp [g1, k1, l1, hF S3 a b c x hc], hq, l3, l4⟩
theorem DvI.r1 {m : ME} {d1 : Dm st Int} (h1 : DvE n Wd L m eI d1) : DvI n Wd L (iR1 (mCons m mNil)) eI (dBind d1 fun a => dOpt (pRange 0 a)) := fun S0 σ S s o Q hn hs hw hd => by
  obtain ⟨a, s1, o1, S1, g1, ⟨c, hc, hq⟩, g3, g4⟩ := h1 S0 σ S s o _ hn hs hw hd
  obtain ⟨_, q, rfl⟩ := pRange_some hc
  exact ⟨_, s1, o1, S1, by simp [g1, q, rangeD_I], hq, g3, g4⟩
theorem DvI.r2 {m1 m2 : ME} {d1 d2 : Dm st Int} (h1 : DvE n Wd L m1 eI d1) (h2 : DvE n Wd L m2 eI d2) : DvI n Wd L (iR2 (mCons m1 (mCons m2 mNil))) eI (dBind d1 fun a => dBind d2 fun b => dOpt (pRange a b)) := fun S0 σ S s o Q hn hs hw hd => by
  obtain ⟨a, s1, o1, S1, g1, g2, g3, g4⟩ := h1 S0 σ S s o _ hn hs hw hd
  obtain ⟨b, s2, o2, S2, k1, ⟨c, hc, hq⟩, k3, k4⟩ := h2 S0 σ S1 s1 o1 _ hn g3 g4 g2
  obtain ⟨q1, q2, rfl⟩ := pRange_some hc
  exact ⟨_, s2, o2, S2, by simp [g1, k1, q1, q2, rangeD_I], hq, k3, k4⟩
theorem DvI.l {m : ME} {d1 : Dm st (List α)} (h1 : DvE n Wd L m (eL e) d1) : DvI n Wd L (iL m) e d1 := fun S0 σ S s o Q hn hs hw hd => by
  obtain ⟨a, s1, o1, S1, g1, g2, g3, g4⟩ := h1 S0 σ S s o _ hn hs hw hd
  exact ⟨a, s1, o1, S1, by simp [g1], g2, g3, g4⟩
theorem DvI.sl {m : ME} {d1 : Dm st (List α)} (h1 : DvE n Wd L m (eL e) d1) : DvI n Wd L (iS m) e d1 := fun S0 σ S s o Q hn hs hw hd => by
  obtain ⟨a, s1, o1, S1, g1, g2, g3, g4⟩ := h1 S0 σ S s o _ hn hs hw hd
  exact ⟨a, s1, o1, S1, by simp [g1, asS], g2, g3, g4⟩
theorem DvI.sv {m : ME} {d1 : Dm st (List α)} (h1 : DvE n Wd L m (eV e) d1) : DvI n Wd L (iS m) e d1 := fun S0 σ S s o Q hn hs hw hd => by
  obtain ⟨a, s1, o1, S1, g1, g2, g3, g4⟩ := h1 S0 σ S s o _ hn hs hw hd
  exact ⟨a, s1, o1, S1, by simp [g1, asS], g2, g3, g4⟩
/-! comprehensions -/
theorem set_back {σ : Env} {i : Nat} {y : Option W} : ∃ z, (σ.set i y).set i z = σ := by
  by_cases hi : i < σ.length
  · exact ⟨σ[i], by rw [List.set_set, List.set_getElem_self]⟩
  · exact ⟨none, by rw [List.set_set, List.set_eq_of_length_le (by omega)]⟩
/-- a target, there and back -/
def TgB (g : MG) (e : Enc α) (bnd : List Sl → α → List Sl) (vs : List Nat) : Prop := ∀ (S0 : Sto) (L : List Sl) (σ : Env) (S : Sto), Sat S0 (wipeL L vs) σ S → ∀ a, ∃ σ1, g (.d (e a)) σ = some σ1 ∧ Sat S0 (bnd (wipeL L vs) a) σ1 S ∧ ∀ (S0' : Sto) (L2 : List Sl) (S' : Sto), Sat S0' (bnd (wipeL L2 vs) a) σ1 S' → Sat S0' (wipeL L2 vs) σ S'
theorem TgB.one (i : Nat) : TgB (gN i) e (fun L a => L.set i (.w (.d (e a)))) [i] := fun S0 L σ S s a => ⟨_, rfl, s.setW i _, fun S0' L2 S' s' => by
  obtain ⟨z, hz⟩ := set_back (σ := σ) (i := i) (y := some (.d (e a)))
  have := s'.setJ i z
  rw [hz, List.set_set] at this
  simpa [wipeL] using this⟩
theorem TgB.p2 (i j : Nat) : TgB (gTup 2 (gCons (gN i) (gCons (gN j) gNil))) (eP e f) (fun L a => (L.set i (.w (.d (e a.1)))).set j (.w (.d (f a.2)))) [i, j] := fun S0 L σ S s a => ⟨_, by simp, (s.setW i _).setW j _, fun S0' L2 S' s' => by
  obtain ⟨z, hz⟩ := set_back (σ := σ.set i (some (.d (e a.1)))) (i := j) (y := some (.d (f a.2)))
  obtain ⟨z2, hz2⟩ := set_back (σ := σ) (i := i) (y := some (.d (e a.1)))
  have h1 := s'.setJ j z
  rw [hz] at h1
  have h2 := h1.setJ i z2
  rw [hz2] at h2
  have e1 : (((((wipeL L2 [i, j]).set i (.w (.d (e a.1)))).set j (.w (.d (f a.2)))).set j .j).set i .j : List Sl) = wipeL L2 [i, j] := by
    simp only [wipeL, List.set_set]
    by_cases hij : i = j
    · subst hij; simp [List.set_set]
    · rw [List.set_comm _ _ (Ne.symm hij), List.set_set, List.set_comm _ _ hij, List.set_set]
  rw [e1] at h2
  exact h2⟩
theorem Sat.unwipe {S0 : Sto} {L : List Sl} {S : Sto} : ∀ {vs : List Nat} {σ : Env}, Sat S0 (wipeL L vs) (wipeD σ vs) S → Sat S0 (wipeL L vs) σ S := by
  intro vs
  have gen : ∀ (vs ws : List Nat) (σ : Env), (∀ v ∈ vs, v ∈ ws) → Sat S0 (wipeL L ws) (wipeD σ vs) S → Sat S0 (wipeL L ws) σ S := by
    intro vs
    induction vs with
    | nil => exact fun ws σ _ h => h
    | cons v vs ih =>
      intro ws σ hw h
      refine ih ws σ (fun u hu => hw u (by simp [hu])) ?_
      obtain ⟨z, hz⟩ := set_back (σ := wipeD σ vs) (i := v) (y := none)
      have := h.setJ v z
      simp only [wipeD] at this
      rw [hz] at this
      have e1 : (wipeL L ws).set v .j = wipeL L ws := by
        have hv := hw v (by simp)
        clear hw h this hz ih
        induction ws with
        | nil => simp at hv
        | cons w ws ih2 =>
          simp only [wipeL]
          by_cases hwv : w = v
          · subst hwv; rw [List.set_set]
          · rcases List.mem_cons.mp hv with q | q
            · exact absurd q.symm hwv
            · rw [List.set_comm _ _ hwv, ih2 q]
      rw [e1] at this
      exact this
  exact fun {σ} h => gen vs vs σ (fun v hv => hv) h
theorem dcomp_go {S0 : Sto} {g : MG} {t : MT} {m : ME} {bnd : List Sl → α → List Sl} {vs : List Nat} {dt : α → Dm st Bool} {dm : α → Dm st β} (hn : n < S0.length) (hg : TgB g e bnd vs)
    (ht : ∀ a, DvT n Wd (fun s => bnd (wipeL (L s) vs) a) t (dt a)) (hm : ∀ a, DvE n Wd (fun s => bnd (wipeL (L s) vs) a) m f (dm a)) : ∀ (xs : List α) (σ : Env) (S : Sto) (s : st) (o : O) (acc : List D) Q, Sat (S0.set n o) (wipeL (L s) vs) σ S → Wd s o → acc.length + xs.length ≤ 16777216 → dComp dt dm xs s Q →
    ∃ (ys : List β) (s' : st) (o' : O) (S' : Sto), compM g t m (xs.map e) σ S acc = some (acc ++ ys.map f, S') ∧ Q ys s' ∧ Sat (S0.set n o') (wipeL (L s') vs) σ S' ∧ Wd s' o'
  | [], σ, S, s, o, acc, Q, hs, hw, hl, hd => ⟨[], s, o, S, by simp, hd, hs, hw⟩
  | x :: xs, σ, S, s, o, acc, Q, hs, hw, hl, hd => by
    simp only [List.length_cons] at hl
    obtain ⟨σ1, g1, g2, g3⟩ := hg _ (L s) σ S hs x
    obtain ⟨c, s1, o1, S1, t1, t2, t3, t4⟩ := ht x S0 σ1 S s o _ hn g2 hw hd
    cases c with
    | true =>
      obtain ⟨y, s2, o2, S2, m1, m2, m3, m4⟩ := hm x S0 σ1 S1 s1 o1 _ hn t3 t4 (by simpa using t2)
      have hf : fits (acc.length + 1) = true := decide_eq_true (by omega)
      obtain ⟨ys, s', o', S', r1, r2, r3, r4⟩ := dcomp_go hn hg ht hm xs σ S2 s2 o2 (acc ++ [f y]) _ (g3 _ (L s2) S2 m3) m4 (by simp; omega) m2
      exact ⟨y :: ys, s', o', S', by simp [g1, t1, m1, hf, r1], r2, r3, r4⟩
    | false =>
      obtain ⟨ys, s', o', S', r1, r2, r3, r4⟩ := dcomp_go hn hg ht hm xs σ S1 s1 o1 acc Q (g3 _ (L s1) S1 t3) t4 (by omega) (by simpa using t2)
      exact ⟨ys, s', o', S', by simp [g1, t1, r1], r2, r3, r4⟩
theorem DvE.comp {mi : MI} {g : MG} {t : MT} {m : ME} {vs : List Nat} {bnd : List Sl → α → List Sl} {d1 : Dm st (List α)} {dt : α → Dm st Bool} {dm : α → Dm st β} (hi : DvI n Wd L mi e d1) (hg : TgB g e bnd vs) (ht : ∀ a, DvT n Wd (fun s => bnd (wipeL (L s) vs) a) t (dt a)) (hm : ∀ a, DvE n Wd (fun s => bnd (wipeL (L s) vs) a) m f (dm a))
    (hj : ∀ s, wipeL (L s) vs = L s := by intro _; rfl) : DvE n Wd L (mComp mi g t m vs) (eL f) (dBind d1 fun xs => dBind (dOpt (pFit xs)) fun xs => dComp dt dm xs) := fun S0 σ S s o Q hn hs hw hd => by
  obtain ⟨xs, s1, o1, S1, g1, ⟨xs', hx, hq⟩, g3, g4⟩ := hi S0 σ S s o _ hn hs hw hd
  obtain ⟨rfl, _, hl⟩ := pFit_some hx
  obtain ⟨ys, s', o', S', r1, r2, r3, r4⟩ := dcomp_go hn hg ht hm xs' (wipeD σ vs) S1 s1 o1 [] Q (g3.wipe vs) g4 (by simpa using hl) hq
  have r5 := r3.unwipe
  rw [hj] at r5
  exact ⟨ys, s', o', S', by simp [g1, r1], r2, r5, r4⟩
/-! ### statements -/
theorem DvN.asg (i : Nat) {m : ME} {d1 : Dm st α} (h1 : DvE n Wd L m e d1) : DvN n Wd L (mAsg i m) d1 (fun a s => (L s).set i (.w (.d (e a)))) := fun S0 σ S s o Q hn hs hw hd => by
  obtain ⟨a, s1, o1, S1, g1, g2, g3, g4⟩ := h1 S0 σ S s o _ hn hs hw hd
  exact ⟨a, s1, o1, _, S1, by simp [g1], g2, g3.setW i _, g4⟩
theorem DvN.par2 (i j : Nat) {m1 m2 : ME} {d1 : Dm st α} {d2 : Dm st β} (h1 : DvE n Wd L m1 e d1) (h2 : DvE n Wd L m2 f d2) : DvN n Wd L (mPar2 i j (mCons m1 (mCons m2 mNil))) (dBind d1 fun a => dBind d2 fun b => dOpt (some (a, b))) (fun r s => ((L s).set i (.w (.d (e r.1)))).set j (.w (.d (f r.2)))) := fun S0 σ S s o Q hn hs hw hd => by
  obtain ⟨a, s1, o1, S1, g1, g2, g3, g4⟩ := h1 S0 σ S s o _ hn hs hw hd
  obtain ⟨b, s2, o2, S2, k1, ⟨c, hc, hq⟩, k3, k4⟩ := h2 S0 σ S1 s1 o1 _ hn g3 g4 g2
  cases hc
  exact ⟨(a, b), s2, o2, _, S2, by simp [g1, k1], hq, (k3.setW i _).setW j _, k4⟩
theorem DvN.par3 (i j k : Nat) {m1 m2 m3 : ME} {d1 : Dm st α} {d2 : Dm st β} {d3 : Dm st γ} (h1 : DvE n Wd L m1 e d1) (h2 : DvE n Wd L m2 f d2) (h3 : DvE n Wd L m3 h d3) : DvN n Wd L (mPar3 i j k (mCons m1 (mCons m2 (mCons m3 mNil)))) (dBind d1 fun a => dBind d2 fun b => dBind d3 fun c => dOpt (some (a, b, c))) (fun r s => (((L s).set i (.w (.d (e r.1)))).set j (.w (.d (f r.2.1)))).set k (.w (.d (h r.2.2)))) := fun S0 σ S s o Q hn hs hw hd => by
  obtain ⟨a, s1, o1, S1, g1, g2, g3, g4⟩ := h1 S0 σ S s o _ hn hs hw hd
  obtain ⟨b, s2, o2, S2, k1, k2, k3, k4⟩ := h2 S0 σ S1 s1 o1 _ hn g3 g4 g2
  obtain ⟨c, s3, o3, S3, l1, ⟨x, hc, hq⟩, l3, l4⟩ := h3 S0 σ S2 s2 o2 _ hn k3 k4 k2
  cases hc
  exact ⟨(a, b, c), s3, o3, _, S3, by simp [g1, k1, l1], hq, ((l3.setW i _).setW j _).setW k _, l4⟩
theorem DvN.unp {g : MG} {m : ME} {d1 : Dm st α} {bnd : List Sl → α → List Sl} (h1 : DvE n Wd L m e d1) (hg : Tg g e bnd) : DvN n Wd L (mAsgG g m) d1 (fun a s => bnd (L s) a) := fun S0 σ S s o Q hn hs hw hd => by
  obtain ⟨a, s1, o1, S1, g1, g2, g3, g4⟩ := h1 S0 σ S s o _ hn hs hw hd
  obtain ⟨σ1, k1, k2⟩ := hg _ _ σ S1 g3 a
  exact ⟨a, s1, o1, σ1, S1, by simp [g1, k1], g2, k2, g4⟩
theorem DvN.expr {m : ME} {d1 : Dm st α} (h1 : DvE n Wd L m e d1) : DvN n Wd L (mExpr m) d1 (fun _ s => L s) := fun S0 σ S s o Q hn hs hw hd => by
  obtain ⟨a, s1, o1, S1, g1, g2, g3, g4⟩ := h1 S0 σ S s o _ hn hs hw hd
  exact ⟨a, s1, o1, σ, S1, by simp [g1], g2, g3, g4⟩
/-- xs.append(drawn), xs an own list -/
theorem DvN.app (i : Nat) {xs : List α} {m : ME} {d1 : Dm st α} (h1 : DvE n Wd L m e d1) (hL : ∀ s, (L s)[i]? = some (.m (.lst (xs.map e))) := by intro _; rfl) : DvN n Wd L (mExpr (mMeth isLoc gAppend (mVar i) (mCons m mNil))) (dBind d1 fun a => dOpt (pFit (xs ++ [a]))) (fun ys s => (L s).set i (.m (.lst (ys.map e)))) := fun S0 σ S s o Q hn hs hw hd => by
  obtain ⟨a, s1, o1, S1, g1, ⟨ys, hy, hq⟩, g3, g4⟩ := h1 S0 σ S s o _ hn hs hw hd
  obtain ⟨rfl, hf, _⟩ := pFit_some hy
  obtain ⟨k, h2, h3, h4⟩ := g3.write (hL s1)
  obtain ⟨k', h2', h3', _⟩ := hs.write (hL s)
  have hkk : k = k' := by rw [h2] at h2'; simpa using h2'
  subst hkk
  have hf' : fits (xs.length + 1) = true := by simpa using hf
  refine ⟨xs ++ [a], s1, o1, σ, S1.set k (.lst ((xs ++ [a]).map e)), ?_, hq, h4 _, g4⟩
  simp [h2, isLoc, h3, h3', g1, gAppend, hf']
theorem DvN.to {m : MS} {d : Dm st α} {L1 : α → st → List Sl} {L2 : β → st → List Sl} (h1 : DvN n Wd L m d L1) (g : α → β) (hl : ∀ a s, Le (L1 a s) (L2 (g a) s)) : DvN n Wd L m (dMap g d) L2 := fun S0 σ S s o Q hn hs hw hd => by
  obtain ⟨a, s1, o1, σ1, S1, g1, g2, g3, g4⟩ := h1 S0 σ S s o _ hn hs hw hd
  exact ⟨g a, s1, o1, σ1, S1, g1, g2, g3.weak (hl a s1), g4⟩
theorem DvN.seq {m1 m2 : MS} {d1 : Dm st α} {d2 : α → Dm st β} {L1 : α → st → List Sl} {L2 : β → st → List Sl} (h1 : DvN n Wd L m1 d1 L1) (h2 : ∀ a, DvN n Wd (L1 a) m2 (d2 a) L2) : DvN n Wd L (mSeq m1 m2) (dBind d1 d2) L2 := fun S0 σ S s o Q hn hs hw hd => by
  obtain ⟨a, s1, o1, σ1, S1, g1, g2, g3, g4⟩ := h1 S0 σ S s o _ hn hs hw hd
  obtain ⟨b, s2, o2, σ2, S2, k1, k2, k3, k4⟩ := h2 a S0 σ1 S1 s1 o1 Q hn g3 g4 g2
  exact ⟨b, s2, o2, σ2, S2, by simp [g1, k1], k2, k3, k4⟩
theorem DvN.ite {t : MT} {m1 m2 : MS} {dt : Dm st Bool} {d1 d2 : Dm st α} {L1 : α → st → List Sl} (ht : DvT n Wd L t dt) (h1 : DvN n Wd L m1 d1 L1) (h2 : DvN n Wd L m2 d2 L1) : DvN n Wd L (mIfS t m1 m2) (dIf dt d1 d2) L1 := fun S0 σ S s o Q hn hs hw hd => by
  obtain ⟨c, s1, o1, S1, g1, g2, g3, g4⟩ := ht S0 σ S s o _ hn hs hw hd
  cases c with
  | true =>
    obtain ⟨b, s2, o2, σ2, S2, k1, k2, k3, k4⟩ := h1 S0 σ S1 s1 o1 Q hn g3 g4 (by simpa using g2)
    exact ⟨b, s2, o2, σ2, S2, by simp [g1, k1], k2, k3, k4⟩
  | false =>
    obtain ⟨b, s2, o2, σ2, S2, k1, k2, k3, k4⟩ := h2 S0 σ S1 s1 o1 Q hn g3 g4 (by simpa using g2)
    exact ⟨b, s2, o2, σ2, S2, by simp [g1, k1], k2, k3, k4⟩
theorem DvF.ret {m : ME} {d1 : Dm st ρ} (h1 : DvE n Wd L m er d1) : DvF n Wd L (mRet m) er d1 := fun S0 σ S s o Q hn hs hw hd => by
  obtain ⟨a, s1, o1, S1, g1, g2, g3, g4⟩ := h1 S0 σ S s o _ hn hs hw hd
  have := g3.base
  rw [List.length_set] at this
  exact ⟨a, s1, o1, S1, by simp [g1], g2, this, g4⟩
theorem DvF.seqN {m1 m2 : MS} {d1 : Dm st α} {d2 : α → Dm st ρ} {L1 : α → st → List Sl} (h1 : DvN n Wd L m1 d1 L1) (h2 : ∀ a, DvF n Wd (L1 a) m2 er (d2 a)) : DvF n Wd L (mSeq m1 m2) er (dBind d1 d2) := fun S0 σ S s o Q hn hs hw hd => by
  obtain ⟨a, s1, o1, σ1, S1, g1, g2, g3, g4⟩ := h1 S0 σ S s o _ hn hs hw hd
  obtain ⟨b, s2, o2, S2, k1, k2, k3, k4⟩ := h2 a S0 σ1 S1 s1 o1 Q hn g3 g4 g2
  exact ⟨b, s2, o2, S2, by simp [g1, k1], k2, k3, k4⟩
theorem DvF.seqR {m1 m2 : MS} {d1 : Dm st (α ⊕ ρ)} {d2 : α → Dm st ρ} {L1 : α → st → List Sl} (h1 : DvR n Wd L m1 er d1 L1) (h2 : ∀ a, DvF n Wd (L1 a) m2 er (d2 a)) : DvF n Wd L (mSeq m1 m2) er (dSeqF d1 d2) := fun S0 σ S s o Q hn hs hw hd => by
  rcases h1 S0 σ S s o _ hn hs hw hd with ⟨a, s1, o1, σ1, S1, g1, g2, g3, g4⟩ | ⟨r, s1, o1, S1, g1, g2, g3, g4⟩
  · obtain ⟨b, s2, o2, S2, k1, k2, k3, k4⟩ := h2 a S0 σ1 S1 s1 o1 Q hn g3 g4 g2
    exact ⟨b, s2, o2, S2, by simp [g1, k1], k2, k3, k4⟩
  · exact ⟨r, s1, o1, S1, by simp [g1], g2, g3, g4⟩
theorem DvF.ite {t : MT} {m1 m2 : MS} {dt : Dm st Bool} {d1 d2 : Dm st ρ} (ht : DvT n Wd L t dt) (h1 : DvF n Wd L m1 er d1) (h2 : DvF n Wd L m2 er d2) : DvF n Wd L (mIfS t m1 m2) er (dIf dt d1 d2) := fun S0 σ S s o Q hn hs hw hd => by
  obtain ⟨c, s1, o1, S1, g1, g2, g3, g4⟩ := ht S0 σ S s o _ hn hs hw hd
  cases c with
  | true =>
    obtain ⟨b, s2, o2, S2, k1, k2, k3, k4⟩ := h1 S0 σ S1 s1 o1 Q hn g3 g4 (by simpa using g2)
    exact ⟨b, s2, o2, S2, by simp [g1, k1], k2, k3, k4⟩
  | false =>
    obtain ⟨b, s2, o2, S2, k1, k2, k3, k4⟩ := h2 S0 σ S1 s1 o1 Q hn g3 g4 (by simpa using g2)
    exact ⟨b, s2, o2, S2, by simp [g1, k1], k2, k3, k4⟩
theorem DvF.guard {t : MT} {m1 m2 : MS} {dt : Dm st Bool} {d1 d2 : Dm st ρ} (ht : DvT n Wd L t dt) (h1 : DvF n Wd L m1 er d1) (h2 : DvF n Wd L m2 er d2) : DvF n Wd L (mSeq (mIfS t m1 mSkip) m2) er (dIf dt d1 d2) := fun S0 σ S s o Q hn hs hw hd => by
  obtain ⟨c, s1, o1, S1, g1, g2, g3, g4⟩ := ht S0 σ S s o _ hn hs hw hd
  cases c with
  | true =>
    obtain ⟨b, s2, o2, S2, k1, k2, k3, k4⟩ := h1 S0 σ S1 s1 o1 Q hn g3 g4 (by simpa using g2)
    exact ⟨b, s2, o2, S2, by simp [g1, k1], k2, k3, k4⟩
  | false =>
    obtain ⟨b, s2, o2, S2, k1, k2, k3, k4⟩ := h2 S0 σ S1 s1 o1 Q hn g3 g4 (by simpa using g2)
    exact ⟨b, s2, o2, S2, by simp [g1, k1], k2, k3, k4⟩
theorem DvR.ofF {m : MS} {d : Dm st ρ} {L1 : α → st → List Sl} (h1 : DvF n Wd L m er d) : DvR n Wd L m er (dMap Sum.inr d) L1 := fun S0 σ S s o Q hn hs hw hd => .inr (h1 S0 σ S s o _ hn hs hw hd)
theorem DvR.ofN {m : MS} {d : Dm st α} {L1 : α → st → List Sl} (h1 : DvN n Wd L m d L1) : DvR n Wd L m er (dMap Sum.inl d) L1 := fun S0 σ S s o Q hn hs hw hd => .inl (h1 S0 σ S s o _ hn hs hw hd)
theorem DvR.ite {t : MT} {m1 m2 : MS} {dt : Dm st Bool} {d1 d2 : Dm st (α ⊕ ρ)} {L1 : α → st → List Sl} (ht : DvT n Wd L t dt) (h1 : DvR n Wd L m1 er d1 L1) (h2 : DvR n Wd L m2 er d2 L1) : DvR n Wd L (mIfS t m1 m2) er (dIf dt d1 d2) L1 := fun S0 σ S s o Q hn hs hw hd => by
  obtain ⟨c, s1, o1, S1, g1, g2, g3, g4⟩ := ht S0 σ S s o _ hn hs hw hd
  cases c with
  | true => exact (h1 S0 σ S1 s1 o1 Q hn g3 g4 (by simpa using g2)).imp (fun ⟨b, s2, o2, σ2, S2, k1, k⟩ => ⟨b, s2, o2, σ2, S2, by simp [g1, k1], k⟩) fun ⟨b, s2, o2, S2, k1, k⟩ => ⟨b, s2, o2, S2, by simp [g1, k1], k⟩
  | false => exact (h2 S0 σ S1 s1 o1 Q hn g3 g4 (by simpa using g2)).imp (fun ⟨b, s2, o2, σ2, S2, k1, k⟩ => ⟨b, s2, o2, σ2, S2, by simp [g1, k1], k⟩) fun ⟨b, s2, o2, S2, k1, k⟩ => ⟨b, s2, o2, S2, by simp [g1, k1], k⟩
theorem DvR.guard {t : MT} {m1 m2 : MS} {dt : Dm st Bool} {d1 : Dm st ρ} {d2 : Dm st (α ⊕ ρ)} {L1 : α → st → List Sl} (ht : DvT n Wd L t dt) (h1 : DvF n Wd L m1 er d1) (h2 : DvR n Wd L m2 er d2 L1) : DvR n Wd L (mSeq (mIfS t m1 mSkip) m2) er (dIf dt (dMap Sum.inr d1) d2) L1 := fun S0 σ S s o Q hn hs hw hd => by
  obtain ⟨c, s1, o1, S1, g1, g2, g3, g4⟩ := ht S0 σ S s o _ hn hs hw hd
  cases c with
  | true =>
    obtain ⟨b, s2, o2, S2, k1, k⟩ := h1 S0 σ S1 s1 o1 _ hn g3 g4 (by simpa using g2)
    exact .inr ⟨b, s2, o2, S2, by simp [g1, k1], k⟩
  | false => exact (h2 S0 σ S1 s1 o1 Q hn g3 g4 (by simpa using g2)).imp (fun ⟨b, s2, o2, σ2, S2, k1, k⟩ => ⟨b, s2, o2, σ2, S2, by simp [g1, k1], k⟩) fun ⟨b, s2, o2, S2, k1, k⟩ => ⟨b, s2, o2, S2, by simp [g1, k1], k⟩
theorem DvR.seqN {m1 m2 : MS} {d1 : Dm st α} {d2 : α → Dm st (β ⊕ ρ)} {L1 : α → st → List Sl} {L2 : β → st → List Sl} (h1 : DvN n Wd L m1 d1 L1) (h2 : ∀ a, DvR n Wd (L1 a) m2 er (d2 a) L2) : DvR n Wd L (mSeq m1 m2) er (dBind d1 d2) L2 := fun S0 σ S s o Q hn hs hw hd => by
  obtain ⟨a, s1, o1, σ1, S1, g1, g2, g3, g4⟩ := h1 S0 σ S s o _ hn hs hw hd
  exact (h2 a S0 σ1 S1 s1 o1 Q hn g3 g4 g2).imp (fun ⟨b, s2, o2, σ2, S2, k1, k⟩ => ⟨b, s2, o2, σ2, S2, by simp [g1, k1], k⟩) fun ⟨b, s2, o2, S2, k1, k⟩ => ⟨b, s2, o2, S2, by simp [g1, k1], k⟩
theorem DvR.seqR {m1 m2 : MS} {d1 : Dm st (α ⊕ ρ)} {d2 : α → Dm st (β ⊕ ρ)} {L1 : α → st → List Sl} {L2 : β → st → List Sl} (h1 : DvR n Wd L m1 er d1 L1) (h2 : ∀ a, DvR n Wd (L1 a) m2 er (d2 a) L2) : DvR n Wd L (mSeq m1 m2) er (dSeqR d1 d2) L2 := fun S0 σ S s o Q hn hs hw hd => by
  rcases h1 S0 σ S s o _ hn hs hw hd with ⟨a, s1, o1, σ1, S1, g1, g2, g3, g4⟩ | ⟨r, s1, o1, S1, g1, g2, g3, g4⟩
  · exact (h2 a S0 σ1 S1 s1 o1 Q hn g3 g4 g2).imp (fun ⟨b, s2, o2, σ2, S2, k1, k⟩ => ⟨b, s2, o2, σ2, S2, by simp [g1, k1], k⟩) fun ⟨b, s2, o2, S2, k1, k⟩ => ⟨b, s2, o2, S2, by simp [g1, k1], k⟩
  · exact .inr ⟨r, s1, o1, S1, by simp [g1], g2, g3, g4⟩
/-! ### loops -/
theorem dfor_go {S0 : Sto} {g : MG} {b : MS} {bnd : List Sl → β → List Sl} {LB : α → st → List Sl} {db : α → β → Dm st α} (hn : n < S0.length) (hg : Tg g f bnd) (hb : ∀ a x, DvN n Wd (fun s => bnd (LB a s) x) b (db a x) LB) : ∀ (xs : List β) (a : α) (σ : Env) (S : Sto) (s : st) (o : O) Q, Sat (S0.set n o) (LB a s) σ S → Wd s o → dFor db xs a s Q →
    ∃ a' s' o' σ' S', forM g b (xs.map f) σ S = some (.nx σ' S') ∧ Q a' s' ∧ Sat (S0.set n o') (LB a' s') σ' S' ∧ Wd s' o'
  | [], a, σ, S, s, o, Q, hs, hw, hd => ⟨a, s, o, σ, S, rfl, hd, hs, hw⟩
  | x :: xs, a, σ, S, s, o, Q, hs, hw, hd => by
    obtain ⟨σ1, g1, g2⟩ := hg _ _ σ S hs x
    obtain ⟨a1, s1, o1, σ2, S2, k1, k2, k3, k4⟩ := hb a x S0 σ1 S s o _ hn g2 hw hd
    obtain ⟨a', s', o', σ', S', r1, r⟩ := dfor_go hn hg hb xs a1 σ2 S2 s1 o1 Q k3 k4 k2
    exact ⟨a', s', o', σ', S', by simp [g1, k1, r1], r⟩
theorem DvN.for {mi : MI} {g : MG} {b : MS} {bnd : List Sl → β → List Sl} (LB : α → st → List Sl) (a0 : α) {d1 : Dm st (List β)} {db : α → β → Dm st α} (hi : DvI n Wd L mi f d1) (hl : ∀ s, Le (L s) (LB a0 s)) (hg : Tg g f bnd) (hb : ∀ a x, DvN n Wd (fun s => bnd (LB a s) x) b (db a x) LB) :
    DvN n Wd L (mFor mi g b) (dBind d1 fun xs => dFor db xs a0) LB := fun S0 σ S s o Q hn hs hw hd => by
  obtain ⟨xs, s1, o1, S1, g1, g2, g3, g4⟩ := hi S0 σ S s o _ hn hs hw hd
  obtain ⟨a', s', o', σ', S', r1, r⟩ := dfor_go hn hg hb xs a0 σ S1 s1 o1 Q (g3.weak (hl s1)) g4 g2
  exact ⟨a', s', o', σ', S', by simp [g1, r1], r⟩
theorem dforR_go {S0 : Sto} {g : MG} {b : MS} {bnd : List Sl → β → List Sl} {LB : α → st → List Sl} {db : α → β → Dm st (α ⊕ ρ)} (hn : n < S0.length) (hg : Tg g f bnd) (hb : ∀ a x, DvR n Wd (fun s => bnd (LB a s) x) b er (db a x) LB) : ∀ (xs : List β) (a : α) (σ : Env) (S : Sto) (s : st) (o : O) Q, Sat (S0.set n o) (LB a s) σ S → Wd s o → dForR db xs a s Q →
    (∃ a' s' o' σ' S', forM g b (xs.map f) σ S = some (.nx σ' S') ∧ Q (.inl a') s' ∧ Sat (S0.set n o') (LB a' s') σ' S' ∧ Wd s' o') ∨ ∃ r s' o' S', forM g b (xs.map f) σ S = some (.rt (.d (er r)) S') ∧ Q (.inr r) s' ∧ S'.take S0.length = S0.set n o' ∧ Wd s' o'
  | [], a, σ, S, s, o, Q, hs, hw, hd => .inl ⟨a, s, o, σ, S, rfl, hd, hs, hw⟩
  | x :: xs, a, σ, S, s, o, Q, hs, hw, hd => by
    obtain ⟨σ1, g1, g2⟩ := hg _ _ σ S hs x
    rcases hb a x S0 σ1 S s o _ hn g2 hw hd with ⟨a1, s1, o1, σ2, S2, k1, k2, k3, k4⟩ | ⟨r, s1, o1, S2, k1, k2, k3, k4⟩
    · exact (dforR_go hn hg hb xs a1 σ2 S2 s1 o1 Q k3 k4 k2).imp (fun ⟨b, s2, o2, σ2, S2, l1, l⟩ => ⟨b, s2, o2, σ2, S2, by simp [g1, k1, l1], l⟩) fun ⟨b, s2, o2, S2, l1, l⟩ => ⟨b, s2, o2, S2, by simp [g1, k1, l1], l⟩
    · exact .inr ⟨r, s1, o1, S2, by simp [g1, k1], k2, k3, k4⟩
theorem DvR.for {mi : MI} {g : MG} {b : MS} {bnd : List Sl → β → List Sl} (LB : α → st → List Sl) (a0 : α) {d1 : Dm st (List β)} {db : α → β → Dm st (α ⊕ ρ)} (hi : DvI n Wd L mi f d1) (hl : ∀ s, Le (L s) (LB a0 s)) (hg : Tg g f bnd) (hb : ∀ a x, DvR n Wd (fun s => bnd (LB a s) x) b er (db a x) LB) :
    DvR n Wd L (mFor mi g b) er (dBind d1 fun xs => dForR db xs a0) LB := fun S0 σ S s o Q hn hs hw hd => by
  obtain ⟨xs, s1, o1, S1, g1, g2, g3, g4⟩ := hi S0 σ S s o _ hn hs hw hd
  exact (dforR_go hn hg hb xs a0 σ S1 s1 o1 Q (g3.weak (hl s1)) g4 g2).imp (fun ⟨b, s2, o2, σ2, S2, l1, l⟩ => ⟨b, s2, o2, σ2, S2, by simp [g1, l1], l⟩) fun ⟨b, s2, o2, S2, l1, l⟩ => ⟨b, s2, o2, S2, by simp [g1, l1], l⟩
/-! ### defs that draw -/
theorem sat_startW (S : Sto) (n : Nat) (ws : List W) : Sat S (ws.map Sl.w ++ List.replicate (n - ws.length) .j) (ws.map some ++ List.replicate (n - ws.length) none) S := by
  refine ⟨by simp, by simp, fun i x hx => ?_, fun _ => 0, fun i o ho => ?_, fun i j o o' h1 => ?_⟩
  · by_cases hi : i < ws.length
    · rw [List.getElem?_append_left (by simpa using hi)] at hx ⊢
      rw [List.getElem?_map] at hx ⊢
      cases h : ws[i]? with
      | none => rw [h] at hx; cases hx
      | some d => rw [h] at hx; cases hx; rfl
    · rw [List.getElem?_append_right (by simpa using hi), List.getElem?_replicate] at hx
      split at hx <;> cases hx
  · exfalso
    by_cases hi : i < ws.length
    · rw [List.getElem?_append_left (by simpa using hi), List.getElem?_map] at ho
      cases h : ws[i]? with
      | none => rw [h] at ho; cases ho
      | some d => rw [h] at ho; cases ho
    · rw [List.getElem?_append_right (by simpa using hi), List.getElem?_replicate] at ho
      split at ho <;> cases ho
  · exfalso
    by_cases hi : i < ws.length
    · rw [List.getElem?_append_left (by simpa using hi), List.getElem?_map] at h1
      cases h : ws[i]? with
      | none => rw [h] at h1; cases h1
      | some d => rw [h] at h1; cases h1
    · rw [List.getElem?_append_right (by simpa using hi), List.getElem?_replicate] at h1
      split at h1 <;> cases h1
theorem fn_dr {N : Nat} {b : MS} {d : Dm st ρ} (ws : Nat → List W) (h1 : ∀ n, DvF n Wd (fun _ => (ws n).map Sl.w ++ List.replicate (N - (ws n).length) .j) b er d) : DrF Wd (fnD N b) ws er d := fun S n s o Q hS hw hd => by
  have hn : n < S.length := (List.getElem?_eq_some_iff.mp hS).1
  have hset : S.set n o = S := set_same hS
  obtain ⟨r, s', o', S', g1, g2, g3, g4⟩ := h1 n S _ S s o Q hn (by rw [hset]; exact sat_startW S N (ws n)) hw hd
  refine ⟨r, s', o', ?_, g2, g4⟩
  unfold fnD
  rw [g1]
  simp [g3]
/-- .. called: the first of what is handed in is what it draws from -/
theorem DvE.d0 (i : Nat) {F : Fn} {d : Dm st ρ} (hF : DrF Wd F (fun n => [.loc n]) er d) (hL : ∀ s, (L s)[i]? = some (.w (.loc n)) := by intro _; rfl) (hk : ∀ s s', L s = L s' := by intros; rfl) : DvE n Wd L (mCallF 1 F (mCons (mVar i) mNil)) er d := fun S0 σ S s o Q hn hs hw hd => by
  obtain ⟨r, s', o', g1, g2, g3⟩ := hF S n s o Q (hs.atN hn) hw hd
  refine ⟨r, s', o', S.set n o', by simp [hs.w i _ (hL s), g1], g2, ?_, g3⟩
  rw [hk s' s]
  exact hs.setB hn o'
theorem DvE.d1 (i : Nat) {F : Fn} {d : α → Dm st ρ} {m : ME} {d1 : Dm st α} (hF : ∀ a, DrF Wd F (fun n => [.loc n, .d (e a)]) er (d a)) (h1 : DvE n Wd L m e d1) (hL : ∀ s, (L s)[i]? = some (.w (.loc n)) := by intro _; rfl) (hk : ∀ s s', L s = L s' := by intros; rfl) : DvE n Wd L (mCallF 2 F (mCons (mVar i) (mCons m mNil))) er (dBind d1 d) := fun S0 σ S s o Q hn hs hw hd => by
  obtain ⟨a, s1, o1, S1, k1, k2, k3, k4⟩ := h1 S0 σ S s o _ hn hs hw hd
  obtain ⟨r, s', o', g1, g2, g3⟩ := hF a S1 n s1 o1 Q (k3.atN hn) k4 k2
  refine ⟨r, s', o', S1.set n o', by simp [hs.w i _ (hL s), k1, g1], g2, ?_, g3⟩
  rw [hk s' s1]
  exact k3.setB hn o'
theorem DvE.d2 (i : Nat) {F : Fn} {d : α → β → Dm st ρ} {m1 m2 : ME} {d1 : Dm st α} {d2 : Dm st β} (hF : ∀ a b, DrF Wd F (fun n => [.loc n, .d (e a), .d (f b)]) er (d a b)) (h1 : DvE n Wd L m1 e d1) (h2 : DvE n Wd L m2 f d2) (hL : ∀ s, (L s)[i]? = some (.w (.loc n)) := by intro _; rfl) (hk : ∀ s s', L s = L s' := by intros; rfl) : DvE n Wd L (mCallF 3 F (mCons (mVar i) (mCons m1 (mCons m2 mNil)))) er (dBind d1 fun a => dBind d2 fun b => d a b) := fun S0 σ S s o Q hn hs hw hd => by
  obtain ⟨a, s1, o1, S1, k1, k2, k3, k4⟩ := h1 S0 σ S s o _ hn hs hw hd
  obtain ⟨b, s2, o2, S2, l1, l2, l3, l4⟩ := h2 S0 σ S1 s1 o1 _ hn k3 k4 k2
  obtain ⟨r, s', o', g1, g2, g3⟩ := hF a b S2 n s2 o2 Q (l3.atN hn) l4 l2
  refine ⟨r, s', o', S2.set n o', by simp [hs.w i _ (hL s), k1, l1, g1], g2, ?_, g3⟩
  rw [hk s' s2]
  exact l3.setB hn o'
end
end DL

set_option Elab.async false
set_option linter.all false
set_option maxRecDepth 100000
set_option autoImplicit false
/-! The typed layer: sorted, sets, calls by keyword, dicts that are handed on. -/
noncomputable section
namespace DL
open PySem PySem.Spec PyProof.Rows L2
/-! ### sorted -/
section
variable {α : Type}
def insS (le : α → α → Bool) (x : α) : List α → List α
  | [] => [x]
  | y :: r => if le x y = true then x :: y :: r else y :: insS le x r
def isS (le : α → α → Bool) : List α → List α
  | [] => []
  | x :: xs => insS le x (isS le xs)
theorem insS_perm (le : α → α → Bool) (x : α) : ∀ r : List α, (insS le x r).Perm (x :: r)
  | [] => .refl _
  | y :: r => by
    unfold insS
    split
    · exact .refl _
    · exact ((insS_perm le x r).cons y).trans (.swap x y r)
theorem isS_perm (le : α → α → Bool) : ∀ xs : List α, (isS le xs).Perm xs
  | [] => .refl _
  | x :: xs => (insS_perm le x _).trans ((isS_perm le xs).cons x)
structure OrdOk (le : α → α → Bool) : Prop where
  tot : ∀ a b, (le a b || le b a) = true
  tr : ∀ a b c, le a b = true → le b c = true → le a c = true
  asy : ∀ a b, le a b = true → le b a = true → a = b
theorem insS_sorted {le : α → α → Bool} (O : OrdOk le) (x : α) : ∀ {r : List α}, r.Pairwise (fun a b => le a b = true) → (insS le x r).Pairwise (fun a b => le a b = true)
  | [], _ => by simp [insS]
  | y :: r, h => by
    unfold insS
    obtain ⟨h1, h2⟩ := List.pairwise_cons.mp h
    split
    · rename_i q
      exact List.pairwise_cons.mpr ⟨fun z hz => by
        rcases List.mem_cons.mp hz with rfl | hz
        · exact q
        · exact O.tr _ _ _ q (h1 z hz), h⟩
    · rename_i q
      refine List.pairwise_cons.mpr ⟨fun z hz => ?_, insS_sorted O x h2⟩
      rcases List.mem_cons.mp ((insS_perm le x r).mem_iff.mp hz) with rfl | hz
      · have := O.tot z y
        rw [Bool.or_eq_true] at this
        exact this.resolve_left q
      · exact h1 z hz
theorem isS_sorted {le : α → α → Bool} (O : OrdOk le) : ∀ xs : List α, (isS le xs).Pairwise (fun a b => le a b = true)
  | [] => .nil
  | x :: xs => insS_sorted O x (isS_sorted O xs)
theorem isS_merge {le : α → α → Bool} (O : OrdOk le) (xs : List α) : xs.mergeSort le = isS le xs :=
  ((List.mergeSort_perm xs le).trans (isS_perm le xs).symm).eq_of_pairwise (le := fun a b => le a b = true) (fun a b _ _ h1 h2 => O.asy a b h1 h2) (List.pairwise_mergeSort O.tr O.tot xs) (isS_sorted O xs)
theorem sortD_map {e : Enc α} {le : α → α → Bool} (O : OrdOk le) (h : ∀ a b, PySem.W.dataLe false id (e a) (e b) = le a b) (xs : List α) : sortD (xs.map e) = (isS le xs).map e := by
  rw [← isS_merge O]
  exact (PySem.W.sort_maps (r := le) (s := PySem.W.dataLe false id) e fun a _ b _ => (h a b).symm).symm
end
def leI (a b : Int) : Bool := decide (a ≤ b)
theorem ordI : OrdOk leI := ⟨fun a b => by unfold leI; simp; omega, fun a b c => by unfold leI; simp; omega, fun a b => by unfold leI; simp; omega⟩
def leP (p q : Int × Int) : Bool := decide (p.1 < q.1 ∨ (p.1 = q.1 ∧ p.2 ≤ q.2))
theorem ordP : OrdOk leP := ⟨fun a b => by unfold leP; simp; omega, fun a b c => by unfold leP; simp; omega, fun a b => by
  obtain ⟨a1, a2⟩ := a
  obtain ⟨b1, b2⟩ := b
  unfold leP; simp; omega⟩
def leV (xs ys : List Int) : Bool := decide (¬ ys < xs)
theorem ordV : OrdOk leV := ⟨fun a b => by
  unfold leV
  rcases ints_lt_tri a b with h | h | h
  · have : ¬ b < a := fun z => List.lt_irrefl a (List.lt_trans h z)
    simp [this]
  · subst h; simp
  · have : ¬ a < b := fun z => List.lt_irrefl a (List.lt_trans z h)
    simp [this], fun a b c h1 h2 => by
  unfold leV at *
  simp only [decide_eq_true_eq] at *
  intro z
  rcases ints_lt_tri a b with h | h | h
  · exact h2 (List.lt_trans z h)
  · subst h; exact h2 z
  · exact h1 h, fun a b h1 h2 => by
  unfold leV at *
  simp only [decide_eq_true_eq] at *
  rcases ints_lt_tri a b with h | h | h
  · exact absurd h h2
  · exact h
  · exact absurd h h1⟩
theorem leD_I (a b : Int) : PySem.W.dataLe false id (eI a) (eI b) = leI a b := congrFun (congrFun (PySem.W.dataLe_int (fun n : Int => n)) a) b
theorem leD_P (a b : Int × Int) : PySem.W.dataLe false id (eP eI eI a) (eP eI eI b) = leP a b := congrFun (congrFun (PySem.W.dataLe_ii (fun p : Int × Int => p.1) (fun p => p.2)) a) b
theorem leD_V (a b : List Int) : PySem.W.dataLe false id (eV eI a) (eV eI b) = leV a b := by
  show (!PySem.W.dataLt (.tuple (b.map eI)) (.tuple (a.map eI))) = _
  rw [PySem.W.dataLt_tuple]
  have := PySem.W.dataLt_ints b a
  unfold PySem.W.rowLt at this
  rw [show (b.map eI) = b.map PyData.int from rfl, show (a.map eI) = a.map PyData.int from rfl, this]
  unfold leV
  by_cases h : b < a
  · simp only [h, decide_true, not_true_eq_false, decide_false, Bool.not_true]
  · simp only [h, decide_false, not_false_eq_true, decide_true, Bool.not_false]
theorem dep_le0 : ∀ {xs : List Int}, PyData.depthAll (xs.map eI) ≤ 0 := fun {xs} => depAll_map EqE.int xs
theorem sortOk_I (xs : List Int) : sortOk (xs.map eI) = true := says_true ⟨PySem.W.AllAlike.of fun b b' => by simp [PySem.W.alike], .inl (PySem.W.Sortable.others (enc := eI) fun b => ⟨(fun z => by cases z), (fun xs z => by cases z)⟩), fun d hd => by
  obtain ⟨x, _, rfl⟩ := List.mem_map.mp hd
  simp [PyData.depth]⟩
theorem sortOk_P (xs : List (Int × Int)) : sortOk (xs.map (eP eI eI)) = true := says_true ⟨PySem.W.AllAlike.of fun b b' => by simp [PySem.W.alike, PySem.W.alikeAll], .inl (PySem.W.Sortable.tuples fun b => ⟨_, _, rfl⟩), fun d hd => by
  obtain ⟨x, _, rfl⟩ := List.mem_map.mp hd
  simp [PyData.depth, PyData.depthAll]⟩
theorem sortOk_V (xs : List (List Int)) : sortOk (xs.map (eV eI)) = true := by
  refine says_true ⟨PySem.W.AllAlike.of fun b b' => by simp only [PySem.W.alike]; exact PySem.W.alike_ints b b', ?_, fun d hd => ?_⟩
  · by_cases h : [] ∈ xs
    · refine .inr ⟨fun d hd => ?_, List.mem_map.mpr ⟨[], h, rfl⟩⟩
      obtain ⟨x, _, rfl⟩ := List.mem_map.mp hd
      exact ⟨_, rfl⟩
    · refine .inl (.inl fun d hd => ?_)
      obtain ⟨x, hx, rfl⟩ := List.mem_map.mp hd
      cases x with
      | nil => exact absurd hx h
      | cons a r => exact ⟨_, _, rfl⟩
  · obtain ⟨x, _, rfl⟩ := List.mem_map.mp hd
    have := dep_le0 (xs := x)
    simp only [PyData.depth]; omega
theorem keysOf_d (d : D) : keysOf (.d d) = none := rfl
def pSortI (xs : List Int) : Option (List Int) := some (isS leI xs)
def pSortP (xs : List (Int × Int)) : Option (List (Int × Int)) := some (isS leP xs)
def pSortV (xs : List (List Int)) : Option (List (List Int)) := some (isS leV xs)
theorem tSortI : G1T vSorted (eL eI) (eL eI) pSortI := fun S a b h => by
  cases h
  simp only [vSorted, keysOf_d, seqOf_d, Option.bind_some, sortOk_I, if_true, sortD_map ordI leD_I]
theorem tSortVI : G1T vSorted (eV eI) (eL eI) pSortI := fun S a b h => by
  cases h
  simp only [vSorted, keysOf_d, seqOf_t, Option.bind_some, sortOk_I, if_true, sortD_map ordI leD_I]
theorem tSortP : G1T vSorted (eL (eP eI eI)) (eL (eP eI eI)) pSortP := fun S a b h => by
  cases h
  simp only [vSorted, keysOf_d, seqOf_d, Option.bind_some, sortOk_P, if_true, sortD_map ordP leD_P]
theorem tSortV : G1T vSorted (eL (eV eI)) (eL (eV eI)) pSortV := fun S a b h => by
  cases h
  simp only [vSorted, keysOf_d, seqOf_d, Option.bind_some, sortOk_V, if_true, sortD_map ordV leD_V]
/-- sorted(set(xs)) of pairs, none less than 0 -/
def insU (x : Int × Int) : List (Int × Int) → List (Int × Int)
  | [] => [x]
  | y :: r => if x = y then y :: r else if leP x y = true then x :: y :: r else y :: insU x r
def usP : List (Int × Int) → List (Int × Int)
  | [] => []
  | x :: xs => insU x (usP xs)
def pSetP (xs : List (Int × Int)) : Option (List (Int × Int)) := if (Nat.blt xs.length 64 && xs.all fun p => decide (0 ≤ p.1) && decide (0 ≤ p.2)) = true then some (usP xs) else none
def row2 (p : Int × Int) : List Int := [p.1, p.2]
theorem row2_inj {p q : Int × Int} : row2 p = row2 q ↔ p = q := by
  obtain ⟨a, b⟩ := p
  obtain ⟨c, d⟩ := q
  simp [row2]
theorem row2_lt {p q : Int × Int} (hne : p ≠ q) : row2 p < row2 q ↔ leP p q = true := by
  obtain ⟨a, b⟩ := p
  obtain ⟨c, d⟩ := q
  have hne' : ¬ (a = c ∧ b = d) := fun z => hne (by rw [z.1, z.2])
  simp only [row2, leP, List.cons_lt_cons_iff, List.not_lt_nil, and_false, or_false, decide_eq_true_eq]
  omega
theorem ins_row2 (x : Int × Int) : ∀ r : List (Int × Int), insR (row2 x) (r.map row2) = (insU x r).map row2
  | [] => rfl
  | y :: r => by
    simp only [List.map_cons, insR, insU, row2_inj]
    split
    · rfl
    · rename_i hne
      simp only [row2_lt hne]
      split
      · rfl
      · simp [ins_row2 x r]
theorem ss_row2 : ∀ xs : List (Int × Int), ssR (xs.map row2) = (usP xs).map row2
  | [] => rfl
  | x :: xs => by
    show insR (row2 x) (ssR (xs.map row2)) = (insU x (usP xs)).map row2
    rw [ss_row2 xs, ins_row2]
theorem le_sum : ∀ (xs : List Int), (∀ x ∈ xs, 0 ≤ x) → ∀ x ∈ xs, x < xs.sum + 1
  | [], _, x, hx => by simp at hx
  | y :: ys, h, x, hx => by
    have hs : ∀ zs : List Int, (∀ z ∈ zs, 0 ≤ z) → 0 ≤ zs.sum := by
      intro zs
      induction zs with
      | nil => intro _; simp
      | cons z zs ih => intro h; have := h z (by simp); have := ih fun w hw => h w (by simp [hw]); simp; omega
    have h0 := h y (by simp)
    have h1 := hs ys fun z hz => h z (by simp [hz])
    simp only [List.sum_cons]
    rcases List.mem_cons.mp hx with rfl | hx
    · omega
    · have := le_sum ys (fun z hz => h z (by simp [hz])) x hx
      omega
theorem tSetP : G1T vSortedSet (eL (eP eI eI)) (eL (eP eI eI)) pSetP := fun S a b h => by
  unfold pSetP at h
  split at h
  · rename_i q
    cases h
    rw [Bool.and_eq_true, List.all_eq_true] at q
    have hl : a.length < 64 := Nat.blt_eq.mp q.1
    have he : (a.map (eP eI eI)) = (a.map row2).map rowD := by rw [List.map_map]; rfl
    have hok : ssOk (a.map row2) = true := says_true ⟨by simpa using hl, 2, (a.map (fun p => p.1 + p.2)).sum + 1, by decide, fun k hk => by
      obtain ⟨p, hp, rfl⟩ := List.mem_map.mp hk
      refine ⟨rfl, fun m hm => ?_⟩
      have hnn : ∀ x ∈ a.map (fun p => p.1 + p.2), 0 ≤ x := fun x hx => by
        obtain ⟨p', hp', rfl⟩ := List.mem_map.mp hx
        have := q.2 p' hp'
        simp at this
        omega
      have h1 := le_sum _ hnn (p.1 + p.2) (List.mem_map.mpr ⟨p, hp, rfl⟩)
      have h2 := q.2 p hp
      simp at h2
      simp [row2] at hm
      rcases hm with rfl | rfl <;> omega⟩
    have hr : (usP a).map (eP eI eI) = ((usP a).map row2).map rowD := by rw [List.map_map]; rfl
    simp only [vSortedSet, asL_d, Option.bind_some, he, rowsI_map, hok, if_true, ss_row2]
    rw [← hr]
  · cases h
/-! ### is ascending -/
def pLtP (p q : Int × Int) : Option Bool := some (decide (p.1 < q.1 ∨ (p.1 = q.1 ∧ p.2 < q.2)))
theorem tLtP : G2T vLtR (eP eI eI) (eP eI eI) eB pLtP := fun S a b c h => by
  cases h
  obtain ⟨a1, a2⟩ := a
  obtain ⟨b1, b2⟩ := b
  simp only [vLtR, intsOf_cons, intsOf_nil, Option.map_some, Option.bind_some, HT.lexLt_cons, HT.lexLt_nil_nil]
  congr 3
  by_cases h1 : a1 = b1
  · subst h1
    by_cases h2 : a2 = b2
    · subst h2; simp
    · simp [h2]
  · simp [h1]
theorem tLtIR : G2T vLtR eI eI eB (fun a b => some (decide (a < b))) := fun S a b c h => by cases h; rfl
/-! ### calls by keyword -/
section
variable {α β γ δ ρ : Type} {L : List Sl} {e : Enc α} {f : Enc β} {h : Enc γ} {o : Enc δ} {er : Enc ρ}
theorem Ev.k1 {F : Fn} {q : α → Option ρ} {m : ME} {p : Option α} (hF : FnT1 F e er q) (h1 : Ev L m e p) : Ev L (mCallK [0] 1 F (mCons m mNil)) er (pB1 q p) := fun S0 σ S s v hv => by
  obtain ⟨a, ha, hv⟩ := bs hv
  simp [h1 S0 σ S s a ha, permL, hF S a v hv]
theorem Ev.k2 {F : Fn} {q : α → β → Option ρ} {m1 m2 : ME} {p1 : Option α} {p2 : Option β} (hF : FnT2 F e f er q) (h1 : Ev L m1 e p1) (h2 : Ev L m2 f p2) : Ev L (mCallK [0, 1] 2 F (mCons m1 (mCons m2 mNil))) er (pB2 q p1 p2) := fun S0 σ S s v hv => by
  obtain ⟨a, ha, hv⟩ := bs hv
  obtain ⟨b, hb, hv⟩ := bs hv
  simp [h1 S0 σ S s a ha, h2 S0 σ S s b hb, permL, hF S a b v hv]
theorem Ev.k3 {F : Fn} {q : α → β → γ → Option ρ} {m1 m2 m3 : ME} {p1 : Option α} {p2 : Option β} {p3 : Option γ} (hF : FnT3 F e f h er q) (h1 : Ev L m1 e p1) (h2 : Ev L m2 f p2) (h3 : Ev L m3 h p3) : Ev L (mCallK [0, 1, 2] 3 F (mCons m1 (mCons m2 (mCons m3 mNil)))) er (pB3 q p1 p2 p3) := fun S0 σ S s v hv => by
  obtain ⟨a, ha, hv⟩ := bs hv
  obtain ⟨b, hb, hv⟩ := bs hv
  obtain ⟨c, hc, hv⟩ := bs hv
  simp [h1 S0 σ S s a ha, h2 S0 σ S s b hb, h3 S0 σ S s c hc, permL, hF S a b c v hv]
theorem Ev.k4 {F : Fn} {q : α → β → γ → δ → Option ρ} {m1 m2 m3 m4 : ME} {p1 : Option α} {p2 : Option β} {p3 : Option γ} {p4 : Option δ} (hF : FnT4 F e f h o er q) (h1 : Ev L m1 e p1) (h2 : Ev L m2 f p2) (h3 : Ev L m3 h p3) (h4 : Ev L m4 o p4) : Ev L (mCallK [0, 1, 2, 3] 4 F (mCons m1 (mCons m2 (mCons m3 (mCons m4 mNil))))) er (pB4 q p1 p2 p3 p4) := fun S0 σ S s v hv => by
  obtain ⟨a, ha, hv⟩ := bs hv
  obtain ⟨b, hb, hv⟩ := bs hv
  obtain ⟨c, hc, hv⟩ := bs hv
  obtain ⟨d, hd, hv⟩ := bs hv
  simp [h1 S0 σ S s a ha, h2 S0 σ S s b hb, h3 S0 σ S s c hc, h4 S0 σ S s d hd, permL, hF S a b c d v hv]
/-! ### a dict that is handed back, then no longer changed -/
theorem EvS.own4 {F : Fn} {q : α → β → γ → δ → Option ρ} {fo : ρ → O} {m1 m2 m3 m4 : ME} {p1 : Option α} {p2 : Option β} {p3 : Option γ} {p4 : Option δ} (hF : ∀ (S : Sto) a b c d r, q a b c d = some r → F [.d (e a), .d (f b), .d (h c), .d (o d)] S = some (.loc S.length, S ++ [fo r])) (h1 : Ev L m1 e p1) (h2 : Ev L m2 f p2) (h3 : Ev L m3 h p3) (h4 : Ev L m4 o p4) :
    EvS L (mCallF 4 F (mCons m1 (mCons m2 (mCons m3 (mCons m4 mNil))))) (pB4 q p1 p2 p3 p4) (fun r => .m (fo r)) := fun S0 σ S s v hv => by
  obtain ⟨a, ha, hv⟩ := bs hv
  obtain ⟨b, hb, hv⟩ := bs hv
  obtain ⟨c, hc, hv⟩ := bs hv
  obtain ⟨d, hd, hv⟩ := bs hv
  exact .inr ⟨_, rfl, by simp [h1 S0 σ S s a ha, h2 S0 σ S s b hb, h3 S0 σ S s c hc, h4 S0 σ S s d hd, hF S a b c d v hv]⟩
theorem EvS.own1 {F : Fn} {q : α → Option ρ} {fo : ρ → O} {m1 : ME} {p1 : Option α} (hF : ∀ (S : Sto) a r, q a = some r → F [.d (e a)] S = some (.loc S.length, S ++ [fo r])) (h1 : Ev L m1 e p1) :
    EvS L (mCallF 1 F (mCons m1 mNil)) (pB1 q p1) (fun r => .m (fo r)) := fun S0 σ S s v hv => by
  obtain ⟨a, ha, hv⟩ := bs hv
  exact .inr ⟨_, rfl, by simp [h1 S0 σ S s a ha, hF S a v hv]⟩
theorem StN.frzT (i : Nat) {kvs : List (List Key × D)} (hL : L[i]? = some (.m (.dT kvs)) := by rfl) : StN L (mFrzV i) (some ()) (fun _ => L.set i (.w (.td false kvs))) := fun S0 σ S s a ha => by
  obtain ⟨n, h1, h2, h3⟩ := s.kill hL
  exact ⟨σ.set i (some (.td false kvs)), S.set n .dead, by simp [mFrzV, h1, DL.frz, h2], h3 .dead _⟩
theorem StN.frzT0 (i : Nat) {b : Bool} {kvs : List (List Key × D)} (hL : L[i]? = some (.w (.td b kvs)) := by rfl) : StN L (mFrzV i) (some ()) (fun _ => L.set i (.w (.td b kvs))) := fun S0 σ S s a ha => ⟨σ.set i (some (.td b kvs)), S, by simp [mFrzV, s.w i _ hL, DL.frz], s.setW i _⟩
def unlL (L : List Sl) : List Sl := L.map fun x => match x with
  | .w x => .w (unl x)
  | x => x
theorem Sat.unl {S0 : Sto} {σ : Env} {S : Sto} (s : Sat S0 L σ S) : Sat S0 (unlL L) (unlE σ) S := by
  refine ⟨by simp [unlL, unlE, s.len], s.base, fun i x hx => ?_, ?_⟩
  · unfold unlL at hx
    rw [List.getElem?_map] at hx
    obtain ⟨y, h1, h2⟩ := Option.map_eq_some_iff.mp hx
    cases y with
    | w y =>
      cases h2
      have := s.w i y h1
      unfold unlE
      rw [List.getElem?_map, this]; rfl
    | m _ => cases h2
    | j => cases h2
  · obtain ⟨g, g1, g2⟩ := s.m
    have back : ∀ (i : Nat) (o : O), (unlL L)[i]? = some (Sl.m o) → L[i]? = some (Sl.m o) := fun i o ho => by
      unfold unlL at ho
      rw [List.getElem?_map] at ho
      obtain ⟨y, h1, h2⟩ := Option.map_eq_some_iff.mp ho
      cases y with
      | w y => cases h2
      | m _ => cases h2; exact h1
      | j => cases h2
    refine ⟨g, fun i o ho => ?_, fun i j o o' h1 h2 => g2 i j o o' (back i o h1) (back j o' h2)⟩
    obtain ⟨a, b, c⟩ := g1 i o (back i o ho)
    refine ⟨?_, b, c⟩
    unfold unlE
    rw [List.getElem?_map, a]; rfl
theorem StN.lockT (i : Nat) {kvs : List (List Key × D)} {m : MS} {p : Option α} {L1 : α → List Sl} (h1 : StN (L.set i (.w (.td true kvs))) m p L1) (hL : L[i]? = some (.w (.td false kvs))) (hu : unlL L = L) : StN L (mLock i m) p (fun a => unlL (L1 a)) := fun S0 σ S s a ha => by
  have s1 := s.unl
  rw [hu] at s1
  obtain ⟨σ', S', g1, g2⟩ := h1 S0 _ S (s1.setW i (.td true kvs)) a ha
  exact ⟨unlE σ', S', by simp [mLock, s.w i _ hL, lockW, g1, unlO], g2.unl⟩
theorem Ev.getF (i : Nat) {κ : Type} [DecidableEq κ] {ek : Enc κ} {kk : κ → List Key} (K : KT ek kk) {b : Bool} {kvs : List (κ × α)} {mk : ME} {pk : Option κ} (h2 : Ev L mk ek pk) (hL : L[i]? = some (.w (.td b (kvs.map (eKV kk e)))) := by rfl) : Ev L (mBin vDGet (mVar i) mk) e (pB1 (valT kvs) pk) := fun S0 σ S s v hv => by
  obtain ⟨k, hk, hv⟩ := bs hv
  simp [s.w i _ hL, h2 S0 σ S s k hk, vDGet, lookD, K.key, valD_map K.inj, hv]
theorem keys_back {κ : Type} [DecidableEq κ] {ek : Enc κ} {kk : κ → List Key} (K : KT ek kk) (kvs : List (κ × α)) : (kvs.map (eKV kk e)).map (fun kv => PyData.tuple (kv.1.map kD)) = (kvs.map (·.1)).map ek := by
  rw [List.map_map, List.map_map]
  exact List.map_congr_left fun kv _ => K.back kv.1
theorem It.keysF (i : Nat) {κ : Type} [DecidableEq κ] {ek : Enc κ} {kk : κ → List Key} (K : KT ek kk) {kvs : List (κ × α)} (hL : L[i]? = some (.w (.td true (kvs.map (eKV kk e)))) := by rfl) : It L (iK (mVar i)) ek (some (kvs.map (·.1))) := fun S0 σ S s v hv => by
  cases hv
  have := keys_back (e := e) K kvs
  simp only [iK, mVar, s.w i _ hL, Option.bind_some, id, Option.map_some, keysOf, this]
theorem Ev.sortF (i : Nat) {kvs : List ((Int × Int) × α)} (hL : L[i]? = some (.w (.td true (kvs.map (eKV (fun (p : Int × Int) => ([Sum.inl p.1, Sum.inl p.2] : List Key)) e)))) := by rfl) : Ev L (mCall (pure1 vSorted) (mCons (mVar i) mNil)) (eL (eP eI eI)) (pSortP (kvs.map (·.1))) := fun S0 σ S s v hv => by
  cases hv
  have h1 := keys_back (e := e) KT.ii kvs
  have h2 : vSorted S (.td true (kvs.map (eKV (fun (p : Int × Int) => ([Sum.inl p.1, Sum.inl p.2] : List Key)) e))) = some (.d (.list ((isS leP (kvs.map (·.1))).map (eP eI eI)))) := by
    simp only [vSorted, keysOf, h1, Option.bind_some, sortOk_P, if_true, sortD_map ordP leD_P]
  simp [s.w i _ hL, h2]
end
section
variable {st : Type} {n : Nat} {Wd : st → O → Prop} {L : st → List Sl} {α ρ : Type} {er : Enc ρ}
theorem DvN.lockT (i : Nat) {kvs : List (List Key × D)} {m : MS} {d : Dm st α} {L1 : α → st → List Sl} (h1 : DvN n Wd (fun s => (L s).set i (.w (.td true kvs))) m d L1) (hL : ∀ s, (L s)[i]? = some (.w (.td false kvs))) (hu : ∀ s, unlL (L s) = L s) : DvN n Wd L (mLock i m) d (fun a s => unlL (L1 a s)) := fun S0 σ S s o Q hn hs hw hd => by
  have s1 := hs.unl
  rw [hu] at s1
  obtain ⟨a, s', o', σ', S', g1, g2, g3, g4⟩ := h1 S0 _ S s o Q hn (s1.setW i (.td true kvs)) hw hd
  exact ⟨a, s', o', unlE σ', S', by simp [mLock, hs.w i _ (hL s), lockW, g1, unlO], g2, g3.unl, g4⟩
theorem DvR.lockT (i : Nat) {kvs : List (List Key × D)} {m : MS} {d : Dm st (α ⊕ ρ)} {L1 : α → st → List Sl} (h1 : DvR n Wd (fun s => (L s).set i (.w (.td true kvs))) m er d L1) (hL : ∀ s, (L s)[i]? = some (.w (.td false kvs))) (hu : ∀ s, unlL (L s) = L s) : DvR n Wd L (mLock i m) er d (fun a s => unlL (L1 a s)) := fun S0 σ S s o Q hn hs hw hd => by
  have s1 := hs.unl
  rw [hu] at s1
  rcases h1 S0 _ S s o Q hn (s1.setW i (.td true kvs)) hw hd with ⟨a, s', o', σ', S', g1, g2, g3, g4⟩ | ⟨r, s', o', S', g1, g2, g3, g4⟩
  · exact .inl ⟨a, s', o', unlE σ', S', by simp [mLock, hs.w i _ (hL s), lockW, g1, unlO], g2, g3.unl, g4⟩
  · exact .inr ⟨r, s', o', S', by simp [mLock, hs.w i _ (hL s), lockW, g1, unlO, DL.unl], g2, g3, g4⟩
end
/-! ### one of some -/
def bOf (ft : Fn) : MS := mRet (mBin vIx (mVar 1) (mCallF 2 ft (mCons (mVar 0) (mCons (mCall (pure1 vLen) (mCons (mVar 1) (mNil))) (mNil)))))
def FnOf (f : Fn) : Prop := ∀ (n : Nat) (S : Sto) (k : Int) (o : O) (ds : List D), S[n]? = some o → Pot k o → k < 1000000 → ds ≠ [] → ds.length ≤ 16777216 → ∃ (i : Nat) (d : D) (o' : O), ds[i]? = some d ∧ f [.loc n, .d (.list ds)] S = some (.d d, S.set n o') ∧ Pot (k + 1) o'
theorem of_any {ft : Fn} (h : FnTake ft) : FnOf (fnD 2 (bOf ft)) := fun n S k o ds hS hP hk h0 hl => by
  have hpos : 0 < ds.length := List.length_pos_iff.mpr h0
  obtain ⟨d, o', h1, h2, h3, h4⟩ := h n S k ds.length o hS hP hk (by omega) (by omega)
  have hd : d.toNat < ds.length := by omega
  have ha : atI ds d = some ds[d.toNat] := by
    rw [atI_pos h2 (by omega)]
    simp [hd]
  refine ⟨d.toNat, ds[d.toNat], o', by simp [hd], ?_, h4⟩
  have hlt : n < S.length := (List.getElem?_eq_some_iff.mp hS).1
  simp [fnD, bOf, h1, ha]
def dOf {τ α : Type} (xs : List α) : Dm (Int × τ) α := fun s Q => s.1 < 1000000 ∧ xs ≠ [] ∧ xs.length ≤ 16777216 ∧ ∀ x ∈ xs, Q x (s.1 + 1, s.2)
theorem DvE.of {τ α : Type} {e : Enc α} {n : Nat} {L : Int × τ → List Sl} (i : Nat) {F : Fn} (hF : FnOf F) {mu : ME} {du : Dm (Int × τ) (List α)} (h1 : DvE n WP L mu (eL e) du) (hL : ∀ s, (L s)[i]? = some (.w (.loc n)) := by intro _; rfl) (hk : ∀ k k' t, L (k, t) = L (k', t) := by intros; rfl) :
    DvE n WP L (mCallF 2 F (mCons (mVar i) (mCons mu mNil))) e (dBind du dOf) := fun S0 σ S s o Q hn hs hw hd => by
  obtain ⟨u, s1, o1, S1, g1, ⟨g2, g3, g4, g5⟩, g6, g7⟩ := h1 S0 σ S s o _ hn hs hw hd
  obtain ⟨j, d, o2, k1, k2, k3⟩ := hF n S1 s1.1 o1 (u.map e) (g6.atN hn) g7 g2 (by simpa using g3) (by simpa using g4)
  rw [List.getElem?_map] at k1
  obtain ⟨x, hx, rfl⟩ := Option.map_eq_some_iff.mp k1
  have h0 := hs.w i _ (hL s)
  refine ⟨x, (s1.1 + 1, s1.2), o2, S1.set n o2, by simp [h0, g1, k2], g5 x (List.mem_of_getElem? hx), ?_, k3⟩
  rw [hk (s1.1 + 1) s1.1]
  exact g6.setB hn o2
/-- the end: what a round of a law comes to -/
theorem right_of {f : Fn} {B : Int} {d : Dm (Int × Unit) Bool} (h : DrF WP f (fun n => [.loc n]) eB d) (hd : ∀ k : Int, 0 ≤ k → k + B ≤ 1000000 → d (k, ()) fun b s => b = true ∧ s.1 ≤ k + B) : FnRight B f := fun n S k o hS hP hk => by
  have h0 : 0 ≤ k := by
    obtain ⟨_, _, c, _, _, _, h1, h2⟩ := hP
    omega
  obtain ⟨r, s', o', h1, ⟨rfl, h2⟩, h3⟩ := h S n (k, ()) o _ hS hP (hd k h0 hk)
  exact ⟨o', h1, h3.mono h2⟩
end DL

set_option Elab.async false
set_option linter.all false
set_option maxRecDepth 100000
set_option autoImplicit false
/-! The typed layer, plain facts: loops and comprehensions as maps, sums by figures, drawn lists. -/
noncomputable section
namespace DL
open PySem PySem.Spec PyProof.Rows L2
section
variable {α β γ ρ : Type}
theorem pComp_map {m : α → Option β} {f : α → β} : ∀ {xs : List α}, (∀ x ∈ xs, m x = some (f x)) → pComp (fun _ => some true) m xs = some (xs.map f)
  | [], _ => rfl
  | x :: xs, h => by
    have ih := pComp_map (m := m) (f := f) (xs := xs) fun y hy => h y (by simp [hy])
    simp [pComp, h x (by simp), ih]
theorem pComp_filter {t : α → Option Bool} {m : α → Option β} {p : α → Bool} {f : α → β} : ∀ {xs : List α}, (∀ x ∈ xs, t x = some (p x)) → (∀ x ∈ xs, p x = true → m x = some (f x)) → pComp t m xs = some ((xs.filter p).map f)
  | [], _, _ => rfl
  | x :: xs, ht, hm => by
    have ih := pComp_filter (t := t) (m := m) (p := p) (f := f) (xs := xs) (fun y hy => ht y (by simp [hy])) fun y hy => hm y (by simp [hy])
    cases hp : p x with
    | true => simp [pComp, ht x (by simp), hp, hm x (by simp) hp, ih]
    | false => simp [pComp, ht x (by simp), hp, ih]
theorem pFor_fold {b : α → β → Option α} {f : α → β → α} : ∀ {xs : List β} {a : α}, (∀ a, ∀ x ∈ xs, b a x = some (f a x)) → pFor b xs a = some (xs.foldl f a)
  | [], a, _ => rfl
  | x :: xs, a, h => by
    have ih := pFor_fold (b := b) (f := f) (xs := xs) (a := f a x) fun a y hy => h a y (by simp [hy])
    simp [pFor, h a x (by simp), ih]
theorem pFor_inv {b : α → β → Option α} (I : Nat → α → Prop) : ∀ (xs : List β) (j : Nat) (a : α), I j a → (∀ i x a, xs[i]? = some x → I (j + i) a → ∃ a', b a x = some a' ∧ I (j + i + 1) a') → ∃ a', pFor b xs a = some a' ∧ I (j + xs.length) a'
  | [], j, a, h0, _ => ⟨a, rfl, h0⟩
  | x :: xs, j, a, h0, h => by
    obtain ⟨a1, h1, h2⟩ := h 0 x a rfl h0
    obtain ⟨a', h3, h4⟩ := pFor_inv I xs (j + 1) a1 h2 fun i y a hy hI => by
      have := h (i + 1) y a (by simpa using hy) (by rw [show j + (i + 1) = j + 1 + i by omega]; exact hI)
      rw [show j + (i + 1) + 1 = j + 1 + i + 1 by omega] at this
      exact this
    refine ⟨a', by simp [pFor, h1, h3], ?_⟩
    rw [show j + (x :: xs).length = j + 1 + xs.length by simp; omega]
    exact h4
theorem rangeI_at (n : Nat) : ∀ (lo : Int) (i : Nat), i < n → (pRange.rangeI lo n)[i]? = some (lo + i) := by
  induction n with
  | zero => intro lo i h; omega
  | succ n ih =>
    intro lo i h
    cases i with
    | zero => simp [pRange.rangeI]
    | succ i =>
      simp only [pRange.rangeI, List.getElem?_cons_succ, ih (lo + 1) i (by omega)]
      congr 1
      omega
@[simp] theorem rangeI_len (n : Nat) : ∀ lo : Int, (pRange.rangeI lo n).length = n := by
  induction n with
  | zero => intro lo; rfl
  | succ n ih => intro lo; simp [pRange.rangeI, ih]
theorem rangeI_map (n : Nat) : ∀ lo : Int, pRange.rangeI lo n = (List.range n).map fun (i : Nat) => lo + (i : Int) := by
  intro lo
  apply List.ext_getElem?
  intro i
  by_cases h : i < n
  · rw [rangeI_at n lo i h]; simp [h]
  · rw [List.getElem?_eq_none (by simp; omega), List.getElem?_eq_none (by simp; omega)]
theorem pRange_of {lo hi : Int} (h1 : -4611686018427387904 ≤ lo) (h2 : lo < 4611686018427387904) (h3 : -4611686018427387904 ≤ hi) (h4 : hi < 4611686018427387904) : pRange lo hi = some (pRange.rangeI lo (hi - lo).toNat) := by
  unfold pRange
  rw [if_pos (decide_eq_true ⟨h1, h2, h3, h4⟩)]
theorem pMul_l {a b : Int} (h1 : -18446744073709551616 < a) (h2 : a < 18446744073709551616) : pMul a b = some (a * b) := by unfold pMul; simp [h1, h2]
theorem pMul_r {a b : Int} (h1 : -18446744073709551616 < b) (h2 : b < 18446744073709551616) : pMul a b = some (a * b) := by unfold pMul; simp [h1, h2]
theorem pDiv_of {a b : Int} (h1 : 0 < b) (h2 : b < 18446744073709551616) : pDiv a b = some (a / b) := by unfold pDiv; simp [h1, h2]
theorem pMod_of {a b : Int} (h1 : 0 < b) : pMod a b = some (a % b) := by unfold pMod; simp [h1]
/-! what is drawn -/
theorem dForR_unit {st : Type} {b : Unit → β → Dm st (Unit ⊕ ρ)} : ∀ {xs : List β} {s : st} {Q : Unit ⊕ ρ → st → Prop}, (∀ x ∈ xs, ∀ Q, Q (.inl ()) s → b () x s Q) → Q (.inl ()) s → dForR b xs () s Q
  | [], s, Q, _, h => h
  | x :: xs, s, Q, hb, h => by
    refine hb x (by simp) _ ?_
    exact dForR_unit (xs := xs) (fun y hy => hb y (by simp [hy])) h
/-- each is taken or not, by one draw -/
theorem dComp_some {τ : Type} {t : α → Dm (Int × τ) Bool} {m : α → Dm (Int × τ) β} {f : α → β} : ∀ {xs : List α} {k : Int} {u : τ} {Q : List β → Int × τ → Prop}, k + xs.length ≤ 1000000 →
    (∀ x ∈ xs, ∀ (k : Int) Q, k < 1000000 → (∀ c, Q c (k + 1, u)) → t x (k, u) Q) → (∀ x ∈ xs, ∀ s Q, Q (f x) s → m x s Q) → (∀ ys : List α, ys.Sublist xs → Q (ys.map f) (k + xs.length, u)) → dComp t m xs (k, u) Q
  | [], k, u, Q, _, _, _, h => by
    have := h [] (.refl _)
    simpa [dComp] using this
  | x :: xs, k, u, Q, hk, ht, hm, h => by
    simp only [List.length_cons] at hk h
    refine ht x (by simp) k _ (by omega) fun c => ?_
    have e : k + ((xs.length + 1 : Nat) : Int) = k + 1 + (xs.length : Int) := by omega
    cases c with
    | true =>
      refine hm x (by simp) _ _ ?_
      refine dComp_some (xs := xs) (k := k + 1) (by omega) (fun y hy => ht y (by simp [hy])) (fun y hy => hm y (by simp [hy])) fun ys hy => ?_
      rw [← e]
      exact h (x :: ys) (hy.cons_cons x)
    | false =>
      simp only [Bool.false_eq_true, if_false]
      refine dComp_some (xs := xs) (k := k + 1) (by omega) (fun y hy => ht y (by simp [hy])) (fun y hy => hm y (by simp [hy])) fun ys hy => ?_
      rw [← e]
      exact h ys (hy.cons x)
/-- each item drawn, so many draws an item -/
theorem dComp_each {τ : Type} {m : α → Dm (Int × τ) β} {P : β → Prop} (c : Int) (hc : 0 ≤ c) : ∀ {xs : List α} {k : Int} {u : τ} {Q : List β → Int × τ → Prop}, k + c * xs.length ≤ 1000000 →
    (∀ x ∈ xs, ∀ (k : Int) Q, k + c ≤ 1000000 → (∀ y, P y → Q y (k + c, u)) → m x (k, u) Q) → (∀ ys : List β, ys.length = xs.length → (∀ y ∈ ys, P y) → Q ys (k + c * xs.length, u)) → dComp (fun _ => dOpt (some true)) m xs (k, u) Q
  | [], k, u, Q, _, _, h => by
    have := h [] rfl (fun y hy => by cases hy)
    simpa [dComp] using this
  | x :: xs, k, u, Q, hk, hm, h => by
    have e1 : c * ((x :: xs).length : Int) = c + c * (xs.length : Int) := by
      simp only [List.length_cons]
      rw [show ((xs.length + 1 : Nat) : Int) = (xs.length : Int) + 1 by omega, Int.mul_add, Int.mul_one]; omega
    rw [e1] at hk
    have hnn : 0 ≤ c * (xs.length : Int) := Int.mul_nonneg hc (by omega)
    refine ⟨true, rfl, ?_⟩
    simp only [if_true]
    refine hm x (by simp) k _ (by omega) fun y hy => ?_
    refine dComp_each c hc (xs := xs) (k := k + c) (by omega) (fun z hz => hm z (by simp [hz])) fun ys hl hys => ?_
    have := h (y :: ys) (by simp [hl]) (fun z hz => by
      rcases List.mem_cons.mp hz with rfl | hz
      · exact hy
      · exact hys z hz)
    rw [e1] at this
    rw [show k + c + c * (xs.length : Int) = k + (c + c * (xs.length : Int)) by omega]
    exact this
end
/-! ### sums figure by figure -/
def XS (xs : List Nat) : Nat := xs.foldl (fun a b => a ^^^ b) 0
theorem xor_cast (a b : Nat) : Builtin.bitXor (a : Int) (b : Int) = ((a ^^^ b : Nat) : Int) := by
  have := Bits.bitXor_pp (x := (a : Int)) (y := (b : Int)) (by omega) (by omega)
  simpa using this
theorem bit_xor (a b k : Nat) : (a ^^^ b) / 2 ^ k % 2 = (a / 2 ^ k % 2 + b / 2 ^ k % 2) % 2 := by
  have h := Nat.shiftRight_xor_distrib (a := a) (b := b) (i := k)
  rw [Nat.shiftRight_eq_div_pow, Nat.shiftRight_eq_div_pow, Nat.shiftRight_eq_div_pow] at h
  rw [h]
  have := Nat.xor_mod_two_pow (a := a / 2 ^ k) (b := b / 2 ^ k) (n := 1)
  simp only [Nat.pow_one] at this
  rw [this]
  have h1 : a / 2 ^ k % 2 = 0 ∨ a / 2 ^ k % 2 = 1 := by omega
  have h2 : b / 2 ^ k % 2 = 0 ∨ b / 2 ^ k % 2 = 1 := by omega
  rcases h1 with h1 | h1 <;> rcases h2 with h2 | h2 <;> rw [h1, h2] <;> rfl
theorem bits_sum (k : Nat) : ∀ (xs : List Nat) (acc : Nat), (acc / 2 ^ k % 2 + (xs.map fun n => n / 2 ^ k % 2).sum) % 2 = (xs.foldl (fun a b => a ^^^ b) acc) / 2 ^ k % 2
  | [], acc => by simp
  | x :: xs, acc => by
    have ih := bits_sum k xs (acc ^^^ x)
    rw [bit_xor] at ih
    simp only [List.map_cons, List.sum_cons, List.foldl_cons]
    rw [← ih]
    omega
theorem XS_lt (n : Nat) : ∀ (xs : List Nat) (acc : Nat), acc < 2 ^ n → (∀ x ∈ xs, x < 2 ^ n) → xs.foldl (fun a b => a ^^^ b) acc < 2 ^ n
  | [], acc, h, _ => h
  | x :: xs, acc, h, hx => XS_lt n xs (acc ^^^ x) (Nat.xor_lt_two_pow h (hx x (by simp))) fun y hy => hx y (by simp [hy])
theorem XS_perm {xs ys : List Nat} (h : xs.Perm ys) : XS xs = XS ys := by
  unfold XS
  exact h.foldl_eq' (fun x _ y _ z => by rw [Nat.xor_assoc, Nat.xor_comm x y, ← Nat.xor_assoc]) 0
theorem sum_cast : ∀ xs : List Nat, ((xs.map fun (n : Nat) => (n : Int)).sum) = ((xs.sum : Nat) : Int)
  | [] => rfl
  | x :: xs => by simp [sum_cast xs]
/-- n places of twos, each by what an odd number has -/
theorem XS_step (xs : List Nat) (j : Nat) : XS xs % 2 ^ (j + 1) = XS xs % 2 ^ j + 2 ^ j * ((xs.map fun n => n / 2 ^ j % 2).sum % 2) := by
  have h1 := bits_sum j xs 0
  have e1 : XS xs % 2 ^ (j + 1) = XS xs % 2 ^ j + 2 ^ j * (XS xs / 2 ^ j % 2) := by rw [Nat.pow_succ, Nat.mod_mul]
  rw [e1]
  unfold XS
  rw [← h1]
  simp
theorem show_256 : ∀ k : Nat, k < 1024 → showOk (.int (k : Int)) = true := by decide +kernel
end DL

set_option Elab.async false
set_option linter.all false
set_option maxRecDepth 100000
set_option autoImplicit false
/-! The typed layer: more rules. -/
noncomputable section
namespace DL
open PySem PySem.Spec PyProof.Rows L2
section
variable {α β γ δ ρ : Type} {e : Enc α} {f : Enc β} {h : Enc γ} {L : List Sl}
theorem EvS.compN {mi : MI} {g : MG} {t : MT} {m : ME} {vs : List Nat} {p : Option (List α)} (hc : Ev L (mComp mi g t m vs) (eL e) p) : EvS L (mCompN mi g t m vs) p (fun a => .m (.lst (a.map e))) := fun S0 σ S s v hv => by
  have h1 := hc S0 σ S s v hv
  refine .inr ⟨_, rfl, ?_⟩
  simp only [mComp] at h1
  obtain ⟨r, h2, h3⟩ := Option.bind_eq_some_iff.mp h1
  rw [Option.map_eq_some_iff] at h3
  obtain ⟨q, h4, h5⟩ := h3
  simp only [Prod.mk.injEq] at h5
  obtain ⟨h6, h7⟩ := h5
  simp only [mCompN, h2, Option.bind_some, h4, Option.map_some, h7]
  injection h6 with h6
  injection h6 with h6
  rw [h6]
theorem tInVE0 [DecidableEq α] {n : Nat} (E : EqE e n) (hn : n ≤ 62 := by decide) : G2T vIn e (eV e) eB (fun a b => some (decide (a ∈ b))) := fun S a b c h => by
  cases h
  have h1 := E.shaped (by omega) a
  have h2 := E.v.shaped (by omega) b
  have l1 : lookD S (.d (eV e b)) (.d (e a)) = none := rfl
  have h2' : SeqAt.shaped (.tuple (b.map e)) = true := h2
  have l2 : asT (.d (eV e b)) = some (b.map e) := rfl
  simp only [vIn, vHas, l1, asD, Option.bind_some, l2, has_map E, h1, h2', Bool.and_true, if_true, ite_self, Option.map_some]
theorem tNinVE0 [DecidableEq α] {n : Nat} (E : EqE e n) (hn : n ≤ 62 := by decide) : G2T vNotIn e (eV e) eB (fun a b => some (!decide (a ∈ b))) := fun S a b c h => by
  cases h
  have h1 := E.shaped (by omega) a
  have h2 := E.v.shaped (by omega) b
  have l1 : lookD S (.d (eV e b)) (.d (e a)) = none := rfl
  have h2' : SeqAt.shaped (.tuple (b.map e)) = true := h2
  have l2 : asT (.d (eV e b)) = some (b.map e) := rfl
  simp only [vNotIn, vHas, l1, asD, Option.bind_some, l2, has_map E, h1, h2', Bool.and_true, if_true, ite_self, Option.map_some]
theorem Ev.inM0 (i : Nat) [DecidableEq α] {n : Nat} {xs : List α} {m : ME} {p : Option α} (E : EqE e n) (h1 : Ev L m e p) (hL : L[i]? = some (.m (.lst (xs.map e))) := by rfl) (hn : n ≤ 62 := by decide) : Ev L (mBin vIn m (mVar i)) eB (p.map fun a => decide (a ∈ xs)) := fun S0 σ S s v hv => by
  rw [Option.map_eq_some_iff] at hv
  obtain ⟨a, ha, rfl⟩ := hv
  obtain ⟨k, h2, h3, _⟩ := s.write hL
  have g1 := E.shaped (by omega) a
  have g2 : SeqAt.shaped (.list (xs.map e)) = true := E.l.shaped (by omega) xs
  have l1 : lookD S (.loc k) (.d (e a)) = Option.none := by simp [lookD, h3]
  have l2 : asL S (.loc k) = some (xs.map e) := by simp [asL, h3]
  have l3 : asT (.loc k) = Option.none := rfl
  have h4 : vIn S (.d (e a)) (.loc k) = some (.d (.bool (decide (a ∈ xs)))) := by
    simp only [vIn, vHas, l1, asD, Option.bind_some, l3, l2, has_map E, g1, g2, Bool.and_true, if_true, ite_self, Option.map_some]
  simp [h1 S0 σ S s a ha, h2, h4]
theorem Ev.ninM0 (i : Nat) [DecidableEq α] {n : Nat} {xs : List α} {m : ME} {p : Option α} (E : EqE e n) (h1 : Ev L m e p) (hL : L[i]? = some (.m (.lst (xs.map e))) := by rfl) (hn : n ≤ 62 := by decide) : Ev L (mBin vNotIn m (mVar i)) eB (p.map fun a => !decide (a ∈ xs)) := fun S0 σ S s v hv => by
  rw [Option.map_eq_some_iff] at hv
  obtain ⟨a, ha, rfl⟩ := hv
  obtain ⟨k, h2, h3, _⟩ := s.write hL
  have g1 := E.shaped (by omega) a
  have g2 : SeqAt.shaped (.list (xs.map e)) = true := E.l.shaped (by omega) xs
  have l1 : lookD S (.loc k) (.d (e a)) = Option.none := by simp [lookD, h3]
  have l2 : asL S (.loc k) = some (xs.map e) := by simp [asL, h3]
  have l3 : asT (.loc k) = Option.none := rfl
  have h4 : vNotIn S (.d (e a)) (.loc k) = some (.d (.bool (!decide (a ∈ xs)))) := by
    simp only [vNotIn, vHas, l1, asD, Option.bind_some, l3, l2, has_map E, g1, g2, Bool.and_true, if_true, ite_self, Option.map_some]
  simp [h1 S0 σ S s a ha, h2, h4]
theorem tInVE [DecidableEq α] [D : ∀ (a : α) (b : List α), Decidable (a ∈ b)] {n : Nat} (E : EqE e n) (hn : n ≤ 62 := by decide) : G2T vIn e (eV e) eB (fun a b => some (decide (a ∈ b))) := fun S a b c h => tInVE0 E hn S a b c (by rw [← h]; exact congrArg some (decide_eq_decide.mpr Iff.rfl))
theorem tNinVE [DecidableEq α] [D : ∀ (a : α) (b : List α), Decidable (a ∈ b)] {n : Nat} (E : EqE e n) (hn : n ≤ 62 := by decide) : G2T vNotIn e (eV e) eB (fun a b => some (!decide (a ∈ b))) := fun S a b c h => tNinVE0 E hn S a b c (by rw [← h]; exact congrArg (fun z => some (!z)) (decide_eq_decide.mpr Iff.rfl))
theorem Ev.inM (i : Nat) [DecidableEq α] [D : ∀ (a : α) (b : List α), Decidable (a ∈ b)] {n : Nat} {xs : List α} {m : ME} {p : Option α} (E : EqE e n) (h1 : Ev L m e p) (hL : L[i]? = some (.m (.lst (xs.map e))) := by rfl) (hn : n ≤ 62 := by decide) : Ev L (mBin vIn m (mVar i)) eB (p.map fun a => decide (a ∈ xs)) := fun S0 σ S s v hv => Ev.inM0 i E h1 hL hn S0 σ S s v (by rw [← hv]; exact congrArg (fun f => p.map f) (funext fun a => decide_eq_decide.mpr Iff.rfl))
theorem Ev.ninM (i : Nat) [DecidableEq α] [D : ∀ (a : α) (b : List α), Decidable (a ∈ b)] {n : Nat} {xs : List α} {m : ME} {p : Option α} (E : EqE e n) (h1 : Ev L m e p) (hL : L[i]? = some (.m (.lst (xs.map e))) := by rfl) (hn : n ≤ 62 := by decide) : Ev L (mBin vNotIn m (mVar i)) eB (p.map fun a => !decide (a ∈ xs)) := fun S0 σ S s v hv => Ev.ninM0 i E h1 hL hn S0 σ S s v (by rw [← hv]; exact congrArg (fun f => p.map f) (funext fun a => congrArg Bool.not (decide_eq_decide.mpr Iff.rfl)))
/-- two texts that are alike -/
def pRep [DecidableEq α] (e : Enc α) (r : Bool) (a b : α) : Option Bool := if (decide (a = b) && showOk (e a)) = true then some r else Option.none
theorem Ev.rep [DecidableEq α] {m1 m2 : ME} {p1 p2 : Option α} (h1 : Ev L m1 e p1) (h2 : Ev L m2 e p2) : Ev L (mBin vNe (mCall (pure1 vRepr) (mCons m1 mNil)) (mCall (pure1 vRepr) (mCons m2 mNil))) eB (pB2 (pRep e false) p1 p2) := fun S0 σ S s v hv => by
  obtain ⟨a, ha, hv⟩ := Option.bind_eq_some_iff.mp hv
  obtain ⟨b, hb, hv⟩ := Option.bind_eq_some_iff.mp hv
  unfold pRep at hv
  obtain ⟨hc, hv⟩ := some_if hv
  cases hv
  rw [Bool.and_eq_true, decide_eq_true_eq] at hc
  obtain ⟨rfl, k5⟩ := hc
  have r1 : ∀ S, vRepr S (.d (e a)) = some (.d (.str (PyData.shown (e a)))) := fun S => repr_d k5
  simp [h1 S0 σ S s a ha, h2 S0 σ S s a hb, r1, ne_str_same]
theorem tIsNB : G2T vIsNB eB eB eB (fun a b => some (!decide (a = b))) := fun S a b c h => by
  cases h
  cases a <;> cases b <;> rfl
theorem tIsB : G2T vIsB eB eB eB (fun a b => some (decide (a = b))) := fun S a b c h => by
  cases h
  cases a <;> cases b <;> rfl
/-! ### a dict that is handed on and filled: what stands in it is right -/
def FnM2 (F : Fn) (e : Enc α) (f : Enc β) (h : Enc γ) (good : O → Prop) (pre : α → β → Prop) (w : α → β → γ) : Prop := ∀ (S : Sto) (n : Nat) (o : O) (a : α) (b : β), S[n]? = some o → good o → pre a b → ∃ o', F [.d (e a), .d (f b), .loc n] S = some (.d (h (w a b)), S.set n o') ∧ good o'
def dMemo (good : O → Prop) (pre : α → β → Prop) (w : α → β → γ) (a : α) (b : β) : Dm (Int × O) γ := fun s Q => (good s.2 ∧ pre a b) ∧ ∀ o', good o' → Q (w a b) (s.1, o')
theorem DvE.memo {n : Nat} {L : Int × O → List Sl} (i : Nat) {F : Fn} {good : O → Prop} {pre : α → β → Prop} {w : α → β → γ} {m1 m2 : ME} {d1 : Dm (Int × O) α} {d2 : Dm (Int × O) β} (hF : FnM2 F e f h good pre w) (h1 : DvE n WP L m1 e d1) (h2 : DvE n WP L m2 f d2)
    (hL : ∀ s, (L s)[i]? = some (.m s.2) := by intro _; rfl) (hset : ∀ k o o', L (k, o') = (L (k, o)).set i (.m o') := by intros; rfl) :
    DvE n WP L (mCallF 3 F (mCons m1 (mCons m2 (mCons (mVar i) mNil)))) h (dBind d1 fun a => dBind d2 fun b => dMemo good pre w a b) := fun S0 σ S s o Q hn hs hw hd => by
  obtain ⟨a, s1, o1, S1, g1, g2, g3, g4⟩ := h1 S0 σ S s o _ hn hs hw hd
  obtain ⟨b, s2, o2, S2, k1, ⟨⟨c1, c2⟩, c3⟩, k3, k4⟩ := h2 S0 σ S1 s1 o1 _ hn g3 g4 g2
  obtain ⟨p, q1, q2, q3⟩ := k3.write (hL s2)
  obtain ⟨o', r1, r2⟩ := hF S2 p s2.2 a b q2 c1 c2
  refine ⟨w a b, (s2.1, o'), o2, S2.set p o', by simp [g1, k1, q1, r1], c3 o' r2, ?_, k4⟩
  rw [hset s2.1 s2.2 o']
  exact q3 o'
/-- x, known = m1, {} -/
theorem DvN.parT {n : Nat} {L : Int × O → List Sl} (i j : Nat) {m1 : ME} {d1 : Dm (Int × O) α} (h1 : DvE n WP L m1 e d1) (hk : ∀ k o o', L (k, o) = L (k, o') := by intros; rfl) :
    DvN n WP L (mPar2 i j (mCons m1 (mCons mNewT mNil))) (dBind d1 fun a => fun s Q => Q a (s.1, O.dT [])) (fun a s => ((L s).set i (.w (.d (e a)))).set j (.m s.2)) := fun S0 σ S s o Q hn hs hw hd => by
  obtain ⟨a, s1, o1, S1, g1, g2, g3, g4⟩ := h1 S0 σ S s o _ hn hs hw hd
  refine ⟨a, (s1.1, O.dT []), o1, (σ.set i (some (.d (e a)))).set j (some (.loc S1.length)), S1 ++ [.dT []], by simp [g1], g2, ?_, g4⟩
  show Sat _ (((L (s1.1, O.dT [])).set i (.w (.d (e a)))).set j (.m (O.dT []))) _ _
  rw [hk s1.1 (O.dT []) s1.2]
  have t := (g3.setW i (.d (e a)))
  exact (t.push (.dT [])).setM j S1.length (.dT []) (by simp) t.le fun j' hj o' => t.locs hj (Nat.le_refl _) o'
end
end DL

set_option Elab.async false
set_option linter.all false
set_option maxRecDepth 100000
set_option autoImplicit false
/-! Plain facts: look-ups in what was put, loops that draw, dicts handed on. -/
noncomputable section
namespace DL
open PySem PySem.Spec PyProof.Rows L2
section
variable {κ α β : Type} [DecidableEq κ]
theorem valT_cons (k0 : κ) (v0 : α) (r : List (κ × α)) (k : κ) : valT ((k0, v0) :: r) k = if k0 = k then some v0 else valT r k := by
  unfold valT
  rw [List.find?_cons]
  by_cases h : k0 = k
  · simp [h]
  · simp [h]
theorem valT_app (k : κ) (ys : List (κ × α)) : ∀ xs : List (κ × α), valT (xs ++ ys) k = (valT xs k).or (valT ys k)
  | [] => rfl
  | (k0, v0) :: xs => by
    rw [List.cons_append, valT_cons, valT_cons, valT_app k ys xs]
    split <;> rfl
theorem valT_map (k k' : κ) (a : α) : ∀ xs : List (κ × α), valT (xs.map fun kv => if kv.1 = k then (kv.1, a) else kv) k' = if k = k' then (valT xs k).map fun _ => a else valT xs k'
  | [] => by by_cases h : k = k' <;> simp [valT, h]
  | (k0, v0) :: xs => by
    have ih := valT_map k k' a xs
    rw [List.map_cons]
    by_cases h0 : k0 = k
    · subst h0
      rw [if_pos rfl, valT_cons, valT_cons, valT_cons, ih]
      by_cases h : k0 = k'
      · simp [h]
      · simp [h]
    · rw [if_neg h0, valT_cons, valT_cons, valT_cons, ih]
      by_cases h : k = k'
      · subst h
        simp [h0]
      · simp [h]
theorem valT_put (xs : List (κ × α)) (k k' : κ) (a : α) : valT (putT xs k a) k' = if k = k' then some a else valT xs k' := by
  unfold putT
  split
  · rename_i h
    rw [valT_map]
    split
    · obtain ⟨v, hv⟩ := Option.isSome_iff_exists.mp h
      rw [hv]; rfl
    · rfl
  · rename_i h
    rw [valT_app, valT_cons]
    have hn : valT xs k = none := by simpa using h
    by_cases e : k = k'
    · subst e
      simp [hn]
    · rw [if_neg e, if_neg e]
      cases valT xs k' <;> rfl
theorem put_len (xs : List (κ × α)) (k : κ) (a : α) : (putT xs k a).length ≤ xs.length + 1 := by
  unfold putT
  split <;> simp
end
section
variable {α β ρ : Type}
theorem dForR_inv {st : Type} {b : Unit → β → Dm st (Unit ⊕ ρ)} (I : Nat → st → Prop) : ∀ (xs : List β) (j : Nat) (s : st) (Q : Unit ⊕ ρ → st → Prop), I j s → (∀ i x s Q, xs[i]? = some x → I (j + i) s → (∀ s', I (j + i + 1) s' → Q (.inl ()) s') → b () x s Q) → (∀ s', I (j + xs.length) s' → Q (.inl ()) s') → dForR b xs () s Q
  | [], j, s, Q, h0, _, hq => hq s h0
  | x :: xs, j, s, Q, h0, hb, hq => by
    refine hb 0 x s _ (by simp) h0 fun s' hs' => ?_
    refine dForR_inv I xs (j + 1) s' Q hs' (fun i y s2 Q2 hi hI h2 => hb (i + 1) y s2 Q2 (by simpa using hi) (by rw [show j + (i + 1) = j + 1 + i by omega]; exact hI) fun s3 h3 => h2 s3 (by rw [show j + 1 + i + 1 = j + (i + 1) + 1 by omega]; exact h3)) fun s3 h3 => hq s3 ?_
    rw [List.length_cons, show j + (xs.length + 1) = j + 1 + xs.length by omega]
    exact h3
theorem dComp_memo {t : α → Dm (Int × O) Bool} {m : α → Dm (Int × O) β} {p : α → Bool} {f : α → β} {good : O → Prop} : ∀ {xs : List α} {k : Int} {o : O} {Q : List β → Int × O → Prop}, good o →
    (∀ x ∈ xs, ∀ o Q, good o → (∀ o', good o' → Q (p x) (k, o')) → t x (k, o) Q) → (∀ x ∈ xs, ∀ s Q, Q (f x) s → m x s Q) → (∀ o', good o' → Q ((xs.filter p).map f) (k, o')) → dComp t m xs (k, o) Q
  | [], k, o, Q, h0, _, _, h => h o h0
  | x :: xs, k, o, Q, h0, ht, hm, h => by
    refine ht x (by simp) o _ h0 fun o' h1 => ?_
    cases e : p x with
    | true =>
      refine hm x (by simp) _ _ ?_
      refine dComp_memo (xs := xs) h1 (fun y hy => ht y (by simp [hy])) (fun y hy => hm y (by simp [hy])) fun o2 h2 => ?_
      have := h o2 h2
      rw [List.filter_cons_of_pos e, List.map_cons] at this
      exact this
    | false =>
      simp only [Bool.false_eq_true, if_false]
      refine dComp_memo (xs := xs) h1 (fun y hy => ht y (by simp [hy])) (fun y hy => hm y (by simp [hy])) fun o2 h2 => ?_
      have := h o2 h2
      rw [List.filter_cons_of_neg (by simp [e])] at this
      exact this
end
end DL

set_option Elab.async false
set_option linter.all false
set_option maxRecDepth 100000
set_option autoImplicit false
noncomputable section
namespace K74
open PySem PySem.Spec PyProof.Rows L2 DL
def top (i : Nat) : Stmt := PySem.Challenge.pw_whoeverbegins_k74_whole_two_heaps_and_eu.main.body.getD i (.Pass ⟨0, 0, 0, 0⟩)
/-- what the top has left of what is built in, and of constants -/
structure Tx (K : PySem.W.Frag) (mg : Str → Option Value) : Prop where
  f_abs : mg "abs" = none
  f_all : mg "all" = none
  f_any : mg "any" = none
  f_bool : mg "bool" = none
  f_int : mg "int" = none
  f_isinstance : mg "isinstance" = none
  f_len : mg "len" = none
  f_list : mg "list" = none
  f_max : mg "max" = none
  f_min : mg "min" = none
  f_range : mg "range" = none
  f_repr : mg "repr" = none
  f_set : mg "set" = none
  f_sorted : mg "sorted" = none
  f_sum : mg "sum" = none
  f_tuple : mg "tuple" = none
  c_MOST_HEAP : Glb K mg "MOST_HEAP" (.d (.int 1000000000000))
  c_MOST_PAIR : Glb K mg "MOST_PAIR" (.d (.int 1000000000))
section
variable {P : Program} {w : World} {K : PySem.W.Frag} {mg : Str → Option Value} {base : Heap}
/-! ### is_integer -/
abbrev st_is_integer : Stmt := top 5
abbrev N_is_integer : List Str := ["value"]
theorem sc_is_integer : FnScope N_is_integer ["value"] (defScope st_is_integer) := ⟨rfl, rfl, rfl, by decide +kernel, rfl, by decide +kernel, by decide +kernel⟩
def b_is_integer : MS := mRet (mAnd (mCall (pure2 vIsi) (mCons (mVar 0) (mCons (mC (.v (.ty "int"))) (mNil)))) (mNot (mCall (pure2 vIsi) (mCons (mVar 0) (mCons (mC (.v (.ty "bool"))) (mNil))))))
def F_is_integer : Fn := fnD 1 b_is_integer
theorem ok_is_integer {f : Addr} {fd : FuncData} (F : FunD K "is_integer" "is_integer" (defArgs st_is_integer) (defBody st_is_integer) (defScope st_is_integer) [] [] f fd) (T : Tx K mg) : FnG P w K mg base CX0 1 f fd ["value"] (spD K 1 F_is_integer) := by
  refine fn_mk F (k := 0) sc_is_integer rfl rfl (b := b_is_integer) fun cdv A outer s H E hG hr => ?_
  have nd := sc_is_integer.nd
  exact ds_one (d_ret (d_and (d_callB (c_isi) rfl T.f_isinstance b_isinstance (da_cons (d_var 0) (da_cons (d_type rfl T.f_int b_int) (da_nil)))) (d_one (d_not (d_callB (c_isi) rfl T.f_isinstance b_isinstance (da_cons (d_var 0) (da_cons (d_type rfl T.f_bool b_bool) (da_nil))))))))
theorem cal_is_integer {f : Addr} {fd : FuncData} (F : FunD K "is_integer" "is_integer" (defArgs st_is_integer) (defBody st_is_integer) (defScope st_is_integer) [] [] f fd) (hm : mg "is_integer" = some (.ref f)) (G : FnG P w K mg base CX0 1 f fd ["value"] (spD K 1 F_is_integer)) : Cal P w K mg base 1 "is_integer" 1 F_is_integer := Cal.of F hm G rfl (fun _ _ _ _ _ _ us hl => match us, hl with | [_], _ => rfl)
/-! ### root_of -/
abbrev st_root_of : Stmt := top 10
abbrev N_root_of : List Str := ["number", "high", "low", "half"]
theorem sc_root_of : FnScope N_root_of ["number"] (defScope st_root_of) := ⟨rfl, rfl, rfl, by decide +kernel, rfl, by decide +kernel, by decide +kernel⟩
def c_root_of_0 : MT := mB (mBin vLe (mBin vMul (mVar 1) (mVar 1)) (mVar 0))
def s_root_of_1 : MS := whileM (c_root_of_0) (mAsg 1 (mBin vMul (mInt 2) (mVar 1))) 80
def s_root_of_2 : MS := mAsg 3 (mBin vFdiv (mBin vAdd (mVar 2) (mVar 1)) (mInt 2))
def s_root_of_3 : MS := mAsgG (gTup 2 (gCons (gN 2) (gCons (gN 1) (gNil)))) (mIf (mB (mBin vLe (mBin vMul (mVar 3) (mVar 3)) (mVar 0))) (mTup (mCons (mVar 3) (mCons (mVar 1) (mNil)))) (mTup (mCons (mVar 2) (mCons (mVar 3) (mNil)))))
def c_root_of_4 : MT := mB (mBin vGt (mBin vSub (mVar 1) (mVar 2)) (mInt 1))
def s_root_of_5 : MS := whileM (c_root_of_4) (mSeq (s_root_of_2) (s_root_of_3)) 80
def b_root_of : MS := mSeq (mAsg 1 (mInt 1)) (mSeq (s_root_of_1) (mSeq (mAsg 2 (mInt 0)) (mSeq (s_root_of_5) (mRet (mVar 2)))))
def F_root_of : Fn := fnD 4 b_root_of
theorem ok_root_of {f : Addr} {fd : FuncData} (F : FunD K "root_of" "root_of" (defArgs st_root_of) (defBody st_root_of) (defScope st_root_of) [] [] f fd) : FnG P w K mg base CX0 1 f fd ["number"] (spD K 1 F_root_of) := by
  refine fn_mk F (k := 0) sc_root_of rfl rfl (b := b_root_of) fun cdv A outer s H E hG hr => ?_
  have nd := sc_root_of.nd
  exact ds_cons (d_set 1 nd (.inl rfl) (d_int)) (ds_cons (d_while 80 PassesOwn.never (d_cmpT o_le (d_bin o_mul (d_var 1) (d_var 1)) (d_var 0) (nomark _)) (ds_one (d_set 1 nd (.inl rfl) (d_bin o_mul (d_int) (d_var 1))))) (ds_cons (d_set 2 nd (.inl rfl) (d_int)) (ds_cons (d_while 80 PassesOwn.never (d_cmpT o_gt (d_bin o_sub (d_var 1) (d_var 2)) (d_int) (nomark _)) (ds_cons (d_set 3 nd (.inl rfl) (d_bin o_fdiv (d_bin o_add (d_var 2) (d_var 1)) (d_int))) (ds_one (d_asg (d_if (d_cmpT o_le (d_bin o_mul (d_var 3) (d_var 3)) (d_var 0) (nomark _)) (d_tup (da_cons (d_var 3) (da_cons (d_var 1) (da_nil)))) (d_tup (da_cons (d_var 2) (da_cons (d_var 3) (da_nil))))) (dg_tup rfl (dgs_cons (dg_name 2 nd (.inl rfl)) (dgs_cons (dg_name 1 nd (.inl rfl)) (dgs_nil)))))))) (ds_one (d_ret (d_var 2))))))
theorem cal_root_of {f : Addr} {fd : FuncData} (F : FunD K "root_of" "root_of" (defArgs st_root_of) (defBody st_root_of) (defScope st_root_of) [] [] f fd) (hm : mg "root_of" = some (.ref f)) (G : FnG P w K mg base CX0 1 f fd ["number"] (spD K 1 F_root_of)) : Cal P w K mg base 1 "root_of" 1 F_root_of := Cal.of F hm G rfl (fun _ _ _ _ _ _ us hl => match us, hl with | [_], _ => rfl)
/-! ### is_golden -/
abbrev st_is_golden : Stmt := top 18
abbrev N_is_golden : List Str := ["high", "low"]
theorem sc_is_golden : FnScope N_is_golden ["high", "low"] (defScope st_is_golden) := ⟨rfl, rfl, rfl, by decide +kernel, rfl, by decide +kernel, by decide +kernel⟩
def b_is_golden : MS := mRet (mBin vGt (mBin vSub (mBin vSub (mBin vMul (mVar 0) (mVar 0)) (mBin vMul (mVar 0) (mVar 1))) (mBin vMul (mVar 1) (mVar 1))) (mInt 0))
def F_is_golden : Fn := fnD 2 b_is_golden
theorem ok_is_golden {f : Addr} {fd : FuncData} (F : FunD K "is_golden" "is_golden" (defArgs st_is_golden) (defBody st_is_golden) (defScope st_is_golden) [] [] f fd) : FnG P w K mg base CX0 1 f fd ["high", "low"] (spD K 2 F_is_golden) := by
  refine fn_mk F (k := 0) sc_is_golden rfl rfl (b := b_is_golden) fun cdv A outer s H E hG hr => ?_
  have nd := sc_is_golden.nd
  exact ds_one (d_ret (d_cmp o_gt (d_bin o_sub (d_bin o_sub (d_bin o_mul (d_var 0) (d_var 0)) (d_bin o_mul (d_var 0) (d_var 1))) (d_bin o_mul (d_var 1) (d_var 1))) (d_int) (nomark _)))
theorem cal_is_golden {f : Addr} {fd : FuncData} (F : FunD K "is_golden" "is_golden" (defArgs st_is_golden) (defBody st_is_golden) (defScope st_is_golden) [] [] f fd) (hm : mg "is_golden" = some (.ref f)) (G : FnG P w K mg base CX0 1 f fd ["high", "low"] (spD K 2 F_is_golden)) : Cal P w K mg base 1 "is_golden" 2 F_is_golden := Cal.of F hm G rfl (fun _ _ _ _ _ _ us hl => match us, hl with | [_, _], _ => rfl)
/-! ### _law_pot -/
abbrev st_law_pot : Stmt := top 23
abbrev N_law_pot : List Str := ["script", "place", "cell", "own", "small"]
theorem sc_law_pot : FnScope N_law_pot ["script", "place"] (defScope st_law_pot) := ⟨rfl, rfl, rfl, by decide +kernel, rfl, by decide +kernel, by decide +kernel⟩
def s_law_pot_0 : MS := mAsg 2 (mIf (mB (mBin vLt (mVar 1) (mCall (pure1 vLen) (mCons (mVar 0) (mNil))))) (mBin vIx (mVar 0) (mVar 1)) (mBin vAdd (mBin vAdd (mBin vMod (mCall (pure1 vSum) (mCons (mCut (mVar 0) (mNoP) (mP (mInt 1))) (mNil))) (mInt 1000003)) (mBin vMul (mInt 19583) (mVar 1))) (mInt 6149)))
def s_law_pot_1 : MS := mAsg 3 (mBin vMul (mBin vMod (mCall (pure1 vInt) (mCons (mCall (pure1 (vInt1 absI)) (mCons (mVar 2) (mNil))) (mNil))) (mBin vPow (mBin vPow (mInt 10) (mInt 60)) (mInt 5))) (mCall (pure1 vInt) (mCons (mBin vGe (mCall (pure1 (vInt1 absI)) (mCons (mVar 2) (mNil))) (mBin vPow (mInt 10) (mInt 18))) (mNil))))
def s_law_pot_2 : MS := mAsg 4 (mBin vMod (mCall (pure1 vInt) (mCons (mVar 2) (mNil))) (mInt 2305843009213693951))
def s_law_pot_3 : MS := mRet (mNew (mCons (mVar 3) (mCons (mBin vMod (mCall (pure1 vInt) (mCons (mBin vAdd (mBin vAdd (mBin vMul (mVar 4) (mInt 99869)) (mBin vMul (mBin vMul (mInt 18299) (mVar 1)) (mVar 1))) (mInt 7227)) (mNil))) (mInt 2305843009213693921)) (mCons (mInt 0) (mNil)))))
def b_law_pot : MS := mSeq (s_law_pot_0) (mSeq (s_law_pot_1) (mSeq (s_law_pot_2) (s_law_pot_3)))
def F_law_pot : Fn := fnD 5 b_law_pot
theorem ok_law_pot {f : Addr} {fd : FuncData} (F : FunD K "_law_pot" "_law_pot" (defArgs st_law_pot) (defBody st_law_pot) (defScope st_law_pot) [] [] f fd) (T : Tx K mg) : FnG P w K mg base CX0 1 f fd ["script", "place"] (spD K 2 F_law_pot) := by
  refine fn_mk F (k := 0) sc_law_pot rfl rfl (b := b_law_pot) fun cdv A outer s H E hG hr => ?_
  have nd := sc_law_pot.nd
  exact ds_cons (d_set 2 nd (.inl rfl) (d_if (d_cmpT o_lt (d_var 1) (d_callB (c_len) rfl T.f_len b_len (da_cons (d_var 0) (da_nil))) (nomark _)) (d_ix i_ix (d_var 0) (d_var 1) (fun _ _ => rfl)) (d_bin o_add (d_bin o_add (d_bin o_mod (d_callB (c_sum rfl) rfl T.f_sum b_sum (da_cons (d_cut (d_var 0) (dp_none) (dp_some (d_int))) (da_nil))) (d_int)) (d_bin o_mul (d_int) (d_var 1))) (d_int)))) (ds_cons (d_set 3 nd (.inl rfl) (d_bin o_mul (d_bin o_mod (d_callTy (c_int) rfl T.f_int b_int (da_cons (d_callB (c_abs) rfl T.f_abs b_abs (da_cons (d_var 2) (da_nil))) (da_nil))) (d_bin o_pow (d_bin o_pow (d_int) (d_int)) (d_int))) (d_callTy (c_int) rfl T.f_int b_int (da_cons (d_cmp o_ge (d_callB (c_abs) rfl T.f_abs b_abs (da_cons (d_var 2) (da_nil))) (d_bin o_pow (d_int) (d_int)) (nomark _)) (da_nil))))) (ds_cons (d_set 4 nd (.inl rfl) (d_bin o_mod (d_callTy (c_int) rfl T.f_int b_int (da_cons (d_var 2) (da_nil))) (d_int))) (ds_one (d_ret (d_new (da_cons (d_var 3) (da_cons (d_bin o_mod (d_callTy (c_int) rfl T.f_int b_int (da_cons (d_bin o_add (d_bin o_add (d_bin o_mul (d_var 4) (d_int)) (d_bin o_mul (d_bin o_mul (d_int) (d_var 1)) (d_var 1))) (d_int)) (da_nil))) (d_int)) (da_cons (d_int) (da_nil)))))))))
theorem cal_law_pot {f : Addr} {fd : FuncData} (F : FunD K "_law_pot" "_law_pot" (defArgs st_law_pot) (defBody st_law_pot) (defScope st_law_pot) [] [] f fd) (hm : mg "_law_pot" = some (.ref f)) (G : FnG P w K mg base CX0 1 f fd ["script", "place"] (spD K 2 F_law_pot)) : Cal P w K mg base 1 "_law_pot" 2 F_law_pot := Cal.of F hm G rfl (fun _ _ _ _ _ _ us hl => match us, hl with | [_, _], _ => rfl)
/-! ### _law_take -/
abbrev st_law_take : Stmt := top 24
abbrev N_law_take : List Str := ["pot", "upto", "digit", "prime", "blend"]
theorem sc_law_take : FnScope N_law_take ["pot", "upto"] (defScope st_law_take) := ⟨rfl, rfl, rfl, by decide +kernel, rfl, by decide +kernel, by decide +kernel⟩
def s_law_take_0 : MS := mAsg 2 (mBin vMod (mCall (pure1 vInt) (mCons (mBin vIx (mVar 0) (mInt 0)) (mNil))) (mVar 1))
def s_law_take_1 : MS := mSetI vSetI (mVar 0) (mInt 0) (mBin vFdiv (mBin vIx (mVar 0) (mInt 0)) (mVar 1))
def s_law_take_2 : MS := mIfS (mB (mBin vGt (mBin vIx (mVar 0) (mInt 0)) (mInt 0))) (mSeq (s_law_take_0) (mSeq (s_law_take_1) (mRet (mVar 2)))) (mSkip)
def s_law_take_3 : MS := mSetI vSetI (mVar 0) (mInt 2) (mBin vAdd (mBin vIx (mVar 0) (mInt 2)) (mInt 1))
def s_law_take_4 : MS := mAsg 3 (mBin vIx (mLst (mCons (mInt 2147483647) (mCons (mInt 2147483629) (mCons (mInt 2147483587) (mCons (mInt 2147483579) (mCons (mInt 2147483563) (mNil))))))) (mBin vMod (mCall (pure1 vInt) (mCons (mBin vIx (mVar 0) (mInt 2)) (mNil))) (mInt 5)))
def s_law_take_5 : MS := mAsg 4 (mBin vMod (mCall (pure1 vInt) (mCons (mBin vPow (mCall (pure1 vInt) (mCons (mBin vAdd (mBin vAdd (mBin vIx (mVar 0) (mInt 1)) (mBin vMul (mBin vMul (mInt 111221) (mBin vIx (mVar 0) (mInt 2))) (mBin vIx (mVar 0) (mInt 2)))) (mInt 3861)) (mNil))) (mInt 3)) (mNil))) (mVar 3))
def s_law_take_6 : MS := mAsg 4 (mBin vMod (mCall (pure1 vInt) (mCons (mBin vMul (mVar 4) (mBin vAdd (mBin vMod (mCall (pure1 vInt) (mCons (mVar 4) (mNil))) (mInt 22063)) (mBin vMul (mInt 2391) (mBin vIx (mVar 0) (mInt 2))))) (mNil))) (mInt 2305843009213693907))
def s_law_take_7 : MS := mRet (mBin vMod (mCall (pure1 vInt) (mCons (mBin vFdiv (mVar 4) (mInt 5749)) (mNil))) (mVar 1))
def b_law_take : MS := mSeq (s_law_take_2) (mSeq (s_law_take_3) (mSeq (s_law_take_4) (mSeq (s_law_take_5) (mSeq (s_law_take_6) (s_law_take_7)))))
def F_law_take : Fn := fnD 5 b_law_take
theorem ok_law_take {f : Addr} {fd : FuncData} (F : FunD K "_law_take" "_law_take" (defArgs st_law_take) (defBody st_law_take) (defScope st_law_take) [] [] f fd) (T : Tx K mg) : FnG P w K mg base CX0 1 f fd ["pot", "upto"] (spD K 2 F_law_take) := by
  refine fn_mk F (k := 0) sc_law_take rfl rfl (b := b_law_take) fun cdv A outer s H E hG hr => ?_
  have nd := sc_law_take.nd
  exact ds_cons (d_ifS (d_cmpT o_gt (d_ix i_ix (d_var 0) (d_int) (fun _ _ => rfl)) (d_int) (nomark _)) (ds_cons (d_set 2 nd (.inl rfl) (d_bin o_mod (d_callTy (c_int) rfl T.f_int b_int (da_cons (d_ix i_ix (d_var 0) (d_int) (fun _ _ => rfl)) (da_nil))) (d_var 1))) (ds_cons (d_setI (d_bin o_fdiv (d_ix i_ix (d_var 0) (d_int) (fun _ _ => rfl)) (d_var 1)) (d_var 0) (d_int) (s_setI (hu_of hr))) (ds_one (d_ret (d_var 2))))) (ds_nil)) (ds_cons (d_setI (d_bin o_add (d_ix i_ix (d_var 0) (d_int) (fun _ _ => rfl)) (d_int)) (d_var 0) (d_int) (s_setI (hu_of hr))) (ds_cons (d_set 3 nd (.inl rfl) (d_ix i_ix (d_lst (da_cons (d_int) (da_cons (d_int) (da_cons (d_int) (da_cons (d_int) (da_cons (d_int) (da_nil))))))) (d_bin o_mod (d_callTy (c_int) rfl T.f_int b_int (da_cons (d_ix i_ix (d_var 0) (d_int) (fun _ _ => rfl)) (da_nil))) (d_int)) (fun _ _ => rfl))) (ds_cons (d_set 4 nd (.inl rfl) (d_bin o_mod (d_callTy (c_int) rfl T.f_int b_int (da_cons (d_bin o_pow (d_callTy (c_int) rfl T.f_int b_int (da_cons (d_bin o_add (d_bin o_add (d_ix i_ix (d_var 0) (d_int) (fun _ _ => rfl)) (d_bin o_mul (d_bin o_mul (d_int) (d_ix i_ix (d_var 0) (d_int) (fun _ _ => rfl))) (d_ix i_ix (d_var 0) (d_int) (fun _ _ => rfl)))) (d_int)) (da_nil))) (d_int)) (da_nil))) (d_var 3))) (ds_cons (d_set 4 nd (.inl rfl) (d_bin o_mod (d_callTy (c_int) rfl T.f_int b_int (da_cons (d_bin o_mul (d_var 4) (d_bin o_add (d_bin o_mod (d_callTy (c_int) rfl T.f_int b_int (da_cons (d_var 4) (da_nil))) (d_int)) (d_bin o_mul (d_int) (d_ix i_ix (d_var 0) (d_int) (fun _ _ => rfl))))) (da_nil))) (d_int))) (ds_one (d_ret (d_bin o_mod (d_callTy (c_int) rfl T.f_int b_int (da_cons (d_bin o_fdiv (d_var 4) (d_int)) (da_nil))) (d_var 1))))))))
theorem cal_law_take {f : Addr} {fd : FuncData} (F : FunD K "_law_take" "_law_take" (defArgs st_law_take) (defBody st_law_take) (defScope st_law_take) [] [] f fd) (hm : mg "_law_take" = some (.ref f)) (G : FnG P w K mg base CX0 1 f fd ["pot", "upto"] (spD K 2 F_law_take)) : Cal P w K mg base 1 "_law_take" 2 F_law_take := Cal.of F hm G rfl (fun _ _ _ _ _ _ us hl => match us, hl with | [_, _], _ => rfl)
/-! ### _law_cells -/
abbrev st_law_cells : Stmt := top 25
abbrev N_law_cells : List Str := ["script", "most"]
theorem sc_law_cells : FnScope N_law_cells ["script", "most"] (defScope st_law_cells) := ⟨rfl, rfl, rfl, by decide +kernel, rfl, by decide +kernel, by decide +kernel⟩
def b_law_cells : MS := mRet (mListR (rg1 (mCall (pure2 (vInt22 maxI)) (mCons (mInt 1) (mCons (mCall (pure2 (vInt22 minI)) (mCons (mVar 1) (mCons (mCall (pure1 vLen) (mCons (mVar 0) (mNil))) (mNil)))) (mNil))))))
def F_law_cells : Fn := fnD 2 b_law_cells
theorem ok_law_cells {f : Addr} {fd : FuncData} (F : FunD K "_law_cells" "_law_cells" (defArgs st_law_cells) (defBody st_law_cells) (defScope st_law_cells) [] [] f fd) (T : Tx K mg) : FnG P w K mg base CX0 1 f fd ["script", "most"] (spD K 2 F_law_cells) := by
  refine fn_mk F (k := 0) sc_law_cells rfl rfl (b := b_law_cells) fun cdv A outer s H E hG hr => ?_
  have nd := sc_law_cells.nd
  exact ds_one (d_ret (d_listR rfl rfl T.f_list (dr_1 rfl T.f_range (d_callB (c_max2 rfl) rfl T.f_max b_max (da_cons (d_int) (da_cons (d_callB (c_min2 rfl) rfl T.f_min b_min (da_cons (d_var 1) (da_cons (d_callB (c_len) rfl T.f_len b_len (da_cons (d_var 0) (da_nil))) (da_nil)))) (da_nil)))))))
theorem cal_law_cells {f : Addr} {fd : FuncData} (F : FunD K "_law_cells" "_law_cells" (defArgs st_law_cells) (defBody st_law_cells) (defScope st_law_cells) [] [] f fd) (hm : mg "_law_cells" = some (.ref f)) (G : FnG P w K mg base CX0 1 f fd ["script", "most"] (spD K 2 F_law_cells)) : Cal P w K mg base 1 "_law_cells" 2 F_law_cells := Cal.of F hm G rfl (fun _ _ _ _ _ _ us hl => match us, hl with | [_, _], _ => rfl)
/-! ### _law_there -/
abbrev st_law_there : Stmt := top 27
abbrev N_law_there : List Str := ["one", "other", "some", "taken"]
theorem sc_law_there : FnScope N_law_there ["one", "other"] (defScope st_law_there) := ⟨rfl, rfl, rfl, by decide +kernel, rfl, by decide +kernel, by decide +kernel⟩
def s_law_there_0 : MS := mAsg 2 (mCompN (iR2 (mCons (mInt 1) (mCons (mBin vAdd (mVar 0) (mInt 1)) (mNil)))) (gN 3) (mYes) (mTup (mCons (mBin vSub (mVar 0) (mVar 3)) (mCons (mVar 1) (mNil)))) [3])
def s_law_there_1 : MS := mExpr (mMeth isLoc gExtend (mVar 2) (mCons (mComp (iR2 (mCons (mInt 1) (mCons (mBin vAdd (mVar 1) (mInt 1)) (mNil)))) (gN 3) (mYes) (mTup (mCons (mVar 0) (mCons (mBin vSub (mVar 1) (mVar 3)) (mNil)))) [3]) (mNil)))
def s_law_there_2 : MS := mRet (mBin vAdd (mVar 2) (mComp (iR2 (mCons (mInt 1) (mCons (mBin vAdd (mCall (pure2 (vInt22 minI)) (mCons (mVar 0) (mCons (mVar 1) (mNil)))) (mInt 1)) (mNil)))) (gN 3) (mYes) (mTup (mCons (mBin vSub (mVar 0) (mVar 3)) (mCons (mBin vSub (mVar 1) (mVar 3)) (mNil)))) [3]))
def b_law_there : MS := mSeq (s_law_there_0) (mSeq (s_law_there_1) (mSeq (mFrzV 2) (s_law_there_2)))
def F_law_there : Fn := fnD 4 b_law_there
theorem ok_law_there {f : Addr} {fd : FuncData} (F : FunD K "_law_there" "_law_there" (defArgs st_law_there) (defBody st_law_there) (defScope st_law_there) [] [] f fd) (T : Tx K mg) : FnG P w K mg base CX0 1 f fd ["one", "other"] (spD K 2 F_law_there) := by
  refine fn_mk F (k := 0) sc_law_there rfl rfl (b := b_law_there) fun cdv A outer s H E hG hr => ?_
  have nd := sc_law_there.nd
  exact ds_cons (d_setCompN 2 [("taken", 3)] rfl nd rfl rfl (sw_true rfl rfl rfl (by decide +kernel)) (di_range2 rfl T.f_range (da_cons (d_int) (da_cons (d_bin o_add (d_var 0) (d_int)) (da_nil)))) (blkOk_by (by kernel_rfl)) (fun _ _ _ _ _ => dgc_name 3 nd (.inl rfl) rfl (by decide) (.inr rfl)) (fun _ _ _ _ _ => dts_nil) (fun _ _ _ _ _ => d_tup (da_cons (d_bin o_sub (d_var 0) (d_var 3)) (da_cons (d_var 1) (da_nil))))) (ds_cons (d_expr (d_meth PySem.F.plainAttrs_list PySem.F.slot_list_extend PySem.F.type_list_extend t_extend ty_list (d_var 2) (da_cons (d_comp [("taken", 3)] rfl nd (di_range2 rfl T.f_range (da_cons (d_int) (da_cons (d_bin o_add (d_var 1) (d_int)) (da_nil)))) (blkOk_by (by kernel_rfl)) (fun _ _ _ _ _ => dgc_name 3 nd (.inl rfl) rfl (by decide) (.inr rfl)) (fun _ _ _ _ _ => dts_nil) (fun _ _ _ _ _ => d_tup (da_cons (d_var 0) (da_cons (d_bin o_sub (d_var 1) (d_var 3)) (da_nil))))) (da_nil)))) (ds_frz (ds_one (d_ret (d_bin o_add (d_var 2) (d_comp [("taken", 3)] rfl nd (di_range2 rfl T.f_range (da_cons (d_int) (da_cons (d_bin o_add (d_callB (c_min2 rfl) rfl T.f_min b_min (da_cons (d_var 0) (da_cons (d_var 1) (da_nil)))) (d_int)) (da_nil)))) (blkOk_by (by kernel_rfl)) (fun _ _ _ _ _ => dgc_name 3 nd (.inl rfl) rfl (by decide) (.inr rfl)) (fun _ _ _ _ _ => dts_nil) (fun _ _ _ _ _ => d_tup (da_cons (d_bin o_sub (d_var 0) (d_var 3)) (da_cons (d_bin o_sub (d_var 1) (d_var 3)) (da_nil))))))))))
theorem cal_law_there {f : Addr} {fd : FuncData} (F : FunD K "_law_there" "_law_there" (defArgs st_law_there) (defBody st_law_there) (defScope st_law_there) [] [] f fd) (hm : mg "_law_there" = some (.ref f)) (G : FnG P w K mg base CX0 1 f fd ["one", "other"] (spD K 2 F_law_there)) : Cal P w K mg base 1 "_law_there" 2 F_law_there := Cal.of F hm G rfl (fun _ _ _ _ _ _ us hl => match us, hl with | [_, _], _ => rfl)
/-! ### _law_euclid -/
abbrev st_law_euclid : Stmt := top 28
abbrev N_law_euclid : List Str := ["one", "other", "known", "low", "high", "some", "times", "left"]
theorem sc_law_euclid : FnScope N_law_euclid ["one", "other", "known"] (defScope st_law_euclid) := ⟨rfl, rfl, rfl, by decide +kernel, rfl, by decide +kernel, by decide +kernel⟩
def s_law_euclid_0 (self : Fn) : MS := mAsgG (gTup 2 (gCons (gN 3) (gCons (gN 4) (gNil)))) (mTup (mCons (mCall (pure2 (vInt22 minI)) (mCons (mVar 0) (mCons (mVar 1) (mNil)))) (mCons (mCall (pure2 (vInt22 maxI)) (mCons (mVar 0) (mCons (mVar 1) (mNil)))) (mNil))))
def s_law_euclid_1 (self : Fn) : MS := mIfS (mB (mBin vEq (mVar 3) (mInt 0))) (mRet (mBool false)) (mSkip)
def s_law_euclid_2 (self : Fn) : MS := mAsg 5 (mComp (iR2 (mCons (mInt 1) (mCons (mBin vAdd (mBin vFdiv (mVar 4) (mVar 3)) (mInt 1)) (mNil)))) (gN 6) (mYes) (mBin vSub (mVar 4) (mBin vMul (mVar 6) (mVar 3))) [6])
def s_law_euclid_3 (self : Fn) : MS := mSetI vSetI (mVar 2) (mTup (mCons (mVar 3) (mCons (mVar 4) (mNil)))) (mCall (pure1 vAny) (mCons (mComp (iS (mVar 5)) (gN 7) (mYes) (mNot (mCallF 3 self (mCons (mVar 3) (mCons (mVar 7) (mCons (mVar 2) (mNil)))))) [7]) (mNil)))
def s_law_euclid_4 (self : Fn) : MS := mIfS (mB (mBin vNotIn (mTup (mCons (mVar 3) (mCons (mVar 4) (mNil)))) (mVar 2))) (mSeq (s_law_euclid_2 self) (s_law_euclid_3 self)) (mSkip)
def s_law_euclid_5 (self : Fn) : MS := mRet (mBin vDGet (mVar 2) (mTup (mCons (mVar 3) (mCons (mVar 4) (mNil)))))
def b_law_euclid (self : Fn) : MS := mSeq (s_law_euclid_0 self) (mSeq (s_law_euclid_1 self) (mSeq (s_law_euclid_4 self) (s_law_euclid_5 self)))
def F_law_euclid : Nat → Fn
  | 0 => fun _ _ => none
  | n + 1 => fnD 8 (b_law_euclid (F_law_euclid n))
theorem cal_law_euclid {f : Addr} {fd : FuncData} (F : FunD K "_law_euclid" "_law_euclid" (defArgs st_law_euclid) (defBody st_law_euclid) (defScope st_law_euclid) [] [] f fd) (hm : mg "_law_euclid" = some (.ref f)) {n : Nat} (G : FnG P w K mg base CX0 (n + 1) f fd ["one", "other", "known"] (spD K 3 (F_law_euclid n))) : Cal P w K mg base (n + 1) "_law_euclid" 3 (F_law_euclid n) := Cal.of F hm G rfl (fun _ _ _ _ _ _ us hl => match us, hl with | [_, _, _], _ => rfl)
theorem ok_law_euclid {f : Addr} {fd : FuncData} (F : FunD K "_law_euclid" "_law_euclid" (defArgs st_law_euclid) (defBody st_law_euclid) (defScope st_law_euclid) [] [] f fd) (hm : mg "_law_euclid" = some (.ref f)) (T : Tx K mg) : ∀ n, FnG P w K mg base CX0 (n + 1) f fd ["one", "other", "known"] (spD K 3 (F_law_euclid n))
  | 0 => fn_never
  | n + 1 => by
    have C_law_euclid := cal_law_euclid F hm (ok_law_euclid F hm T n)
    rw [show n + 1 + 1 = (n + 1) + 1 from by omega]
    refine fn_mk F (k := n + 1) sc_law_euclid rfl rfl (b := b_law_euclid (F_law_euclid n)) fun cdv A outer s H E hG hr => ?_
    have nd := sc_law_euclid.nd
    exact ds_cons (d_asg (d_tup (da_cons (d_callB (c_min2 rfl) rfl T.f_min b_min (da_cons (d_var 0) (da_cons (d_var 1) (da_nil)))) (da_cons (d_callB (c_max2 rfl) rfl T.f_max b_max (da_cons (d_var 0) (da_cons (d_var 1) (da_nil)))) (da_nil)))) (dg_tup rfl (dgs_cons (dg_name 3 nd (.inr rfl)) (dgs_cons (dg_name 4 nd (.inr rfl)) (dgs_nil))))) (ds_cons (d_ifS (d_cmpT (o_eq hr.units) (d_var 3) (d_int) (nomark _)) (ds_one (d_ret (d_bool))) (ds_nil)) (ds_cons (d_ifS (d_cmpT (o_notIn (u65 hr)) (d_tup (da_cons (d_var 3) (da_cons (d_var 4) (da_nil)))) (d_var 2) (by rfl)) (ds_cons (d_setComp 5 [("times", 6)] rfl nd rfl rfl (sw_true rfl rfl rfl (by decide +kernel)) (di_range2 rfl T.f_range (da_cons (d_int) (da_cons (d_bin o_add (d_bin o_fdiv (d_var 4) (d_var 3)) (d_int)) (da_nil)))) (blkOk_by (by kernel_rfl)) (fun _ _ _ _ _ => dgc_name 6 nd (.inl rfl) rfl (by decide) (.inr rfl)) (fun _ _ _ _ _ => dts_nil) (fun _ _ _ _ _ => d_bin o_sub (d_var 4) (d_bin o_mul (d_var 6) (d_var 3)))) (ds_one (d_setI (d_callB (c_any rfl) rfl T.f_any b_any (da_cons (d_comp [("left", 7)] rfl nd (di_seq (d_var 5)) (blkOk_by (by kernel_rfl)) (fun _ _ _ _ _ => dgc_name 7 nd (.inl rfl) rfl (by decide) (.inr rfl)) (fun _ _ _ _ _ => dts_nil) (fun _ _ _ _ _ => d_not (C_law_euclid.call hG (hr.mono (by omega)) rfl (da_cons (d_var 3) (da_cons (d_var 7) (da_cons (d_var 2) (da_nil))))))) (da_nil))) (d_var 2) (d_tup (da_cons (d_var 3) (da_cons (d_var 4) (da_nil)))) (s_setI (hu_of hr))))) (ds_nil)) (ds_one (d_ret (d_dget (hu_of hr) (d_var 2) (d_tup (da_cons (d_var 3) (da_cons (d_var 4) (da_nil)))) (fun _ _ => rfl))))))
/-! ### is_between -/
abbrev st_is_between : Stmt := top 6
abbrev N_is_between : List Str := ["value", "least", "most"]
theorem sc_is_between : FnScope N_is_between ["value", "least", "most"] (defScope st_is_between) := ⟨rfl, rfl, rfl, by decide +kernel, rfl, by decide +kernel, by decide +kernel⟩
def b_is_between : MS := mRet (mAnd (mCallF 1 F_is_integer (mCons (mVar 0) (mNil))) (mChain vLe vLe (mVar 1) (mVar 0) (mVar 2)))
def F_is_between : Fn := fnD 3 b_is_between
theorem ok_is_between {f : Addr} {fd : FuncData} (F : FunD K "is_between" "is_between" (defArgs st_is_between) (defBody st_is_between) (defScope st_is_between) [] [] f fd) (C_is_integer : Cal P w K mg base 1 "is_integer" 1 F_is_integer) : FnG P w K mg base CX0 2 f fd ["value", "least", "most"] (spD K 3 F_is_between) := by
  refine fn_mk F (k := 1) sc_is_between rfl rfl (b := b_is_between) fun cdv A outer s H E hG hr => ?_
  have nd := sc_is_between.nd
  exact ds_one (d_ret (d_and (C_is_integer.call hG (hr.mono (by decide)) rfl (da_cons (d_var 0) (da_nil))) (d_one (d_chain o_le o_le (d_var 1) (d_var 0) (d_var 2)))))
theorem cal_is_between {f : Addr} {fd : FuncData} (F : FunD K "is_between" "is_between" (defArgs st_is_between) (defBody st_is_between) (defScope st_is_between) [] [] f fd) (hm : mg "is_between" = some (.ref f)) (G : FnG P w K mg base CX0 2 f fd ["value", "least", "most"] (spD K 3 F_is_between)) : Cal P w K mg base 2 "is_between" 3 F_is_between := Cal.of F hm G rfl (fun _ _ _ _ _ _ us hl => match us, hl with | [_, _, _], _ => rfl)
/-! ### pair_by -/
abbrev st_pair_by : Stmt := top 11
abbrev N_pair_by : List Str := ["number", "low"]
theorem sc_pair_by : FnScope N_pair_by ["number"] (defScope st_pair_by) := ⟨rfl, rfl, rfl, by decide +kernel, rfl, by decide +kernel, by decide +kernel⟩
def s_pair_by_0 : MS := mAsg 1 (mBin vFdiv (mBin vAdd (mVar 0) (mCallF 1 F_root_of (mCons (mBin vMul (mBin vMul (mInt 5) (mVar 0)) (mVar 0)) (mNil)))) (mInt 2))
def s_pair_by_1 : MS := mRet (mTup (mCons (mVar 1) (mCons (mBin vAdd (mVar 1) (mVar 0)) (mNil))))
def b_pair_by : MS := mSeq (s_pair_by_0) (s_pair_by_1)
def F_pair_by : Fn := fnD 2 b_pair_by
theorem ok_pair_by {f : Addr} {fd : FuncData} (F : FunD K "pair_by" "pair_by" (defArgs st_pair_by) (defBody st_pair_by) (defScope st_pair_by) [] [] f fd) (C_root_of : Cal P w K mg base 1 "root_of" 1 F_root_of) : FnG P w K mg base CX0 2 f fd ["number"] (spD K 1 F_pair_by) := by
  refine fn_mk F (k := 1) sc_pair_by rfl rfl (b := b_pair_by) fun cdv A outer s H E hG hr => ?_
  have nd := sc_pair_by.nd
  exact ds_cons (d_set 1 nd (.inl rfl) (d_bin o_fdiv (d_bin o_add (d_var 0) (C_root_of.call hG (hr.mono (by decide)) rfl (da_cons (d_bin o_mul (d_bin o_mul (d_int) (d_var 0)) (d_var 0)) (da_nil)))) (d_int))) (ds_one (d_ret (d_tup (da_cons (d_var 1) (da_cons (d_bin o_add (d_var 1) (d_var 0)) (da_nil))))))
theorem cal_pair_by {f : Addr} {fd : FuncData} (F : FunD K "pair_by" "pair_by" (defArgs st_pair_by) (defBody st_pair_by) (defScope st_pair_by) [] [] f fd) (hm : mg "pair_by" = some (.ref f)) (G : FnG P w K mg base CX0 2 f fd ["number"] (spD K 1 F_pair_by)) : Cal P w K mg base 2 "pair_by" 1 F_pair_by := Cal.of F hm G rfl (fun _ _ _ _ _ _ us hl => match us, hl with | [_], _ => rfl)
/-! ### is_euclid_won -/
abbrev st_is_euclid_won : Stmt := top 19
abbrev N_is_euclid_won : List Str := ["one", "other", "low", "high"]
theorem sc_is_euclid_won : FnScope N_is_euclid_won ["one", "other"] (defScope st_is_euclid_won) := ⟨rfl, rfl, rfl, by decide +kernel, rfl, by decide +kernel, by decide +kernel⟩
def s_is_euclid_won_0 : MS := mPar2 2 3 (mCons (mCall (pure2 (vInt22 minI)) (mCons (mVar 0) (mCons (mVar 1) (mNil)))) (mCons (mCall (pure2 (vInt22 maxI)) (mCons (mVar 0) (mCons (mVar 1) (mNil)))) (mNil)))
def s_is_euclid_won_1 : MS := mRet (mAnd (mBin vGt (mVar 2) (mInt 0)) (mOr (mBin vEq (mVar 2) (mVar 3)) (mCallF 2 F_is_golden (mCons (mVar 3) (mCons (mVar 2) (mNil))))))
def b_is_euclid_won : MS := mSeq (s_is_euclid_won_0) (s_is_euclid_won_1)
def F_is_euclid_won : Fn := fnD 4 b_is_euclid_won
theorem ok_is_euclid_won {f : Addr} {fd : FuncData} (F : FunD K "is_euclid_won" "is_euclid_won" (defArgs st_is_euclid_won) (defBody st_is_euclid_won) (defScope st_is_euclid_won) [] [] f fd) (T : Tx K mg) (C_is_golden : Cal P w K mg base 1 "is_golden" 2 F_is_golden) : FnG P w K mg base CX0 2 f fd ["one", "other"] (spD K 2 F_is_euclid_won) := by
  refine fn_mk F (k := 1) sc_is_euclid_won rfl rfl (b := b_is_euclid_won) fun cdv A outer s H E hG hr => ?_
  have nd := sc_is_euclid_won.nd
  exact ds_cons (d_par2 2 3 rfl nd rfl rfl (da_cons (d_callB (c_min2 rfl) rfl T.f_min b_min (da_cons (d_var 0) (da_cons (d_var 1) (da_nil)))) (da_cons (d_callB (c_max2 rfl) rfl T.f_max b_max (da_cons (d_var 0) (da_cons (d_var 1) (da_nil)))) (da_nil))) rfl) (ds_one (d_ret (d_and (d_cmp o_gt (d_var 2) (d_int) (nomark _)) (d_one (d_or (d_cmp (o_eq hr.units) (d_var 2) (d_var 3) (nomark _)) (d_one (C_is_golden.call hG (hr.mono (by decide)) rfl (da_cons (d_var 3) (da_cons (d_var 2) (da_nil))))))))))
theorem cal_is_euclid_won {f : Addr} {fd : FuncData} (F : FunD K "is_euclid_won" "is_euclid_won" (defArgs st_is_euclid_won) (defBody st_is_euclid_won) (defScope st_is_euclid_won) [] [] f fd) (hm : mg "is_euclid_won" = some (.ref f)) (G : FnG P w K mg base CX0 2 f fd ["one", "other"] (spD K 2 F_is_euclid_won)) : Cal P w K mg base 2 "is_euclid_won" 2 F_is_euclid_won := Cal.of F hm G rfl (fun _ _ _ _ _ _ us hl => match us, hl with | [_, _], _ => rfl)
/-! ### _law_table -/
abbrev st_law_table : Stmt := top 26
abbrev N_law_table : List Str := ["most", "found", "one", "other", "there"]
theorem sc_law_table : FnScope N_law_table ["most"] (defScope st_law_table) := ⟨rfl, rfl, rfl, by decide +kernel, rfl, by decide +kernel, by decide +kernel⟩
def l_law_table_0 : MS := mSetI vSetI (mVar 1) (mTup (mCons (mVar 2) (mCons (mVar 3) (mNil)))) (mCall (pure1 vAny) (mCons (mComp (iL (mCallF 2 F_law_there (mCons (mVar 2) (mCons (mVar 3) (mNil))))) (gN 4) (mYes) (mNot (mBin vDGet (mVar 1) (mVar 4))) [4]) (mNil)))
def l_law_table_1 : MS := mFor (iR1 (mCons (mBin vAdd (mVar 0) (mInt 1)) (mNil))) (gN 3) (l_law_table_0)
def s_law_table_2 : MS := mFor (iR1 (mCons (mBin vAdd (mVar 0) (mInt 1)) (mNil))) (gN 2) (l_law_table_1)
def b_law_table : MS := mSeq (mAsg 1 (mNewT)) (mSeq (s_law_table_2) (mRet (mVar 1)))
def F_law_table : Fn := fnD 5 b_law_table
theorem ok_law_table {f : Addr} {fd : FuncData} (F : FunD K "_law_table" "_law_table" (defArgs st_law_table) (defBody st_law_table) (defScope st_law_table) [] [] f fd) (T : Tx K mg) (C_law_there : Cal P w K mg base 1 "_law_there" 2 F_law_there) : FnG P w K mg base CX0 2 f fd ["most"] (spD K 1 F_law_table) := by
  refine fn_mk F (k := 1) sc_law_table rfl rfl (b := b_law_table) fun cdv A outer s H E hG hr => ?_
  have nd := sc_law_table.nd
  exact ds_cons (d_set 1 nd (.inr rfl) (d_newT)) (ds_cons (d_for PassesOwn.never rfl (di_range1 rfl T.f_range (da_cons (d_bin o_add (d_var 0) (d_int)) (da_nil))) (dg_name 2 nd (.inl rfl)) (ds_one (d_for PassesOwn.never rfl (di_range1 rfl T.f_range (da_cons (d_bin o_add (d_var 0) (d_int)) (da_nil))) (dg_name 3 nd (.inl rfl)) (ds_one (d_setI (d_callB (c_any rfl) rfl T.f_any b_any (da_cons (d_comp [("there", 4)] rfl nd (di_list (C_law_there.call hG (hr.mono (by decide)) rfl (da_cons (d_var 2) (da_cons (d_var 3) (da_nil))))) (blkOk_by (by kernel_rfl)) (fun _ _ _ _ _ => dgc_name 4 nd (.inl rfl) rfl (by decide) (.inr rfl)) (fun _ _ _ _ _ => dts_nil) (fun _ _ _ _ _ => d_not (d_dget (hu_of hr) (d_var 1) (d_var 4) (fun _ _ => rfl)))) (da_nil))) (d_var 1) (d_tup (da_cons (d_var 2) (da_cons (d_var 3) (da_nil)))) (s_setI (hu_of hr))))))) (ds_one (d_ret (d_var 1))))
theorem cal_law_table {f : Addr} {fd : FuncData} (F : FunD K "_law_table" "_law_table" (defArgs st_law_table) (defBody st_law_table) (defScope st_law_table) [] [] f fd) (hm : mg "_law_table" = some (.ref f)) (G : FnG P w K mg base CX0 2 f fd ["most"] (spD K 1 F_law_table)) : Cal P w K mg base 2 "_law_table" 1 F_law_table := Cal.of F hm G rfl (fun _ _ _ _ _ _ us hl => match us, hl with | [_], _ => rfl)
/-! ### wythoff -/
abbrev st_wythoff : Stmt := top 12
abbrev N_wythoff : List Str := ["number"]
theorem sc_wythoff : FnScope N_wythoff ["number"] (defScope st_wythoff) := ⟨rfl, rfl, rfl, by decide +kernel, rfl, by decide +kernel, by decide +kernel⟩
def s_wythoff_0 : MS := mIfS (mNotT (mB (mCallF 3 F_is_between (mCons (mVar 0) (mCons (mInt 0) (mCons (mC (.d (.int 1000000000))) (mNil))))))) ((fun _ _ => none)) (mSkip)
def s_wythoff_1 : MS := mRet (mCallF 1 F_pair_by (mCons (mVar 0) (mNil)))
def b_wythoff : MS := mSeq (s_wythoff_0) (s_wythoff_1)
def F_wythoff : Fn := fnD 1 b_wythoff
theorem ok_wythoff {f : Addr} {fd : FuncData} (F : FunD K "wythoff" "wythoff" (defArgs st_wythoff) (defBody st_wythoff) (defScope st_wythoff) [] [] f fd) (T : Tx K mg) (C_is_between : Cal P w K mg base 2 "is_between" 3 F_is_between) (C_pair_by : Cal P w K mg base 2 "pair_by" 1 F_pair_by) : FnG P w K mg base CX0 3 f fd ["number"] (spD K 1 F_wythoff) := by
  refine fn_mk F (k := 2) sc_wythoff rfl rfl (b := b_wythoff) fun cdv A outer s H E hG hr => ?_
  have nd := sc_wythoff.nd
  exact ds_cons (d_ifS (d_notT (d_valT (C_is_between.call hG (hr.mono (by decide)) rfl (da_cons (d_var 0) (da_cons (d_int) (da_cons ((T.c_MOST_PAIR.name rfl)) (da_nil))))))) (ds_one (d_never)) (ds_nil)) (ds_one (d_ret (C_pair_by.call hG (hr.mono (by decide)) rfl (da_cons (d_var 0) (da_nil)))))
theorem cal_wythoff {f : Addr} {fd : FuncData} (F : FunD K "wythoff" "wythoff" (defArgs st_wythoff) (defBody st_wythoff) (defScope st_wythoff) [] [] f fd) (hm : mg "wythoff" = some (.ref f)) (G : FnG P w K mg base CX0 3 f fd ["number"] (spD K 1 F_wythoff)) : Cal P w K mg base 3 "wythoff" 1 F_wythoff := Cal.of F hm G rfl (fun _ _ _ _ _ _ us hl => match us, hl with | [_], _ => rfl)
theorem kw_4 {f : Addr} {fd : FuncData} (F : FunD K "wythoff" "wythoff" (defArgs st_wythoff) (defBody st_wythoff) (defScope st_wythoff) [] [] f fd) (hm : mg "wythoff" = some (.ref f)) (G : FnG P w K mg base CX0 3 f fd ["number"] (spD K 1 F_wythoff)) : CalK P w K mg base 3 "wythoff" 1 F_wythoff ["number"] [0] :=
  CalK.of F hm G rfl fun _ _ _ _ _ _ ws hl => match ws, hl with | [], hl => absurd hl (by simp [permL]) | _ :: _, _ => rfl
/-! ### mate_of -/
abbrev st_mate_of : Stmt := top 13
abbrev N_mate_of : List Str := ["size", "near", "number", "far"]
theorem sc_mate_of : FnScope N_mate_of ["size"] (defScope st_mate_of) := ⟨rfl, rfl, rfl, by decide +kernel, rfl, by decide +kernel, by decide +kernel⟩
def s_mate_of_0 : MS := mAsg 1 (mBin vFdiv (mBin vSub (mCallF 1 F_root_of (mCons (mBin vMul (mBin vMul (mInt 5) (mVar 0)) (mVar 0)) (mNil))) (mVar 0)) (mInt 2))
def l_mate_of_1 : MS := mIfS (mB (mBin vEq (mBin vIx (mCallF 1 F_pair_by (mCons (mVar 2) (mNil))) (mInt 0)) (mVar 0))) (mRet (mBin vIx (mCallF 1 F_pair_by (mCons (mVar 2) (mNil))) (mInt 1))) (mSkip)
def s_mate_of_2 : MS := mFor (iT (mTup (mCons (mVar 1) (mCons (mBin vAdd (mVar 1) (mInt 1)) (mNil))))) (gN 2) (l_mate_of_1)
def s_mate_of_3 : MS := mAsg 3 (mComp (iR2 (mCons (mCall (pure2 (vInt22 maxI)) (mCons (mInt 0) (mCons (mBin vSub (mBin vSub (mVar 0) (mVar 1)) (mInt 2)) (mNil)))) (mCons (mBin vAdd (mBin vSub (mVar 0) (mVar 1)) (mInt 2)) (mNil)))) (gN 2) (mB (mBin vEq (mBin vIx (mCallF 1 F_pair_by (mCons (mVar 2) (mNil))) (mInt 1)) (mVar 0))) (mVar 2) [2])
def s_mate_of_4 : MS := mRet (mBin vIx (mCallF 1 F_pair_by (mCons (mBin vIx (mVar 3) (mInt 0)) (mNil))) (mInt 0))
def b_mate_of : MS := mSeq (s_mate_of_0) (mSeq (s_mate_of_2) (mSeq (s_mate_of_3) (s_mate_of_4)))
def F_mate_of : Fn := fnD 4 b_mate_of
theorem ok_mate_of {f : Addr} {fd : FuncData} (F : FunD K "mate_of" "mate_of" (defArgs st_mate_of) (defBody st_mate_of) (defScope st_mate_of) [] [] f fd) (T : Tx K mg) (C_root_of : Cal P w K mg base 1 "root_of" 1 F_root_of) (C_pair_by : Cal P w K mg base 2 "pair_by" 1 F_pair_by) : FnG P w K mg base CX0 3 f fd ["size"] (spD K 1 F_mate_of) := by
  refine fn_mk F (k := 2) sc_mate_of rfl rfl (b := b_mate_of) fun cdv A outer s H E hG hr => ?_
  have nd := sc_mate_of.nd
  exact ds_cons (d_set 1 nd (.inl rfl) (d_bin o_fdiv (d_bin o_sub (C_root_of.call hG (hr.mono (by decide)) rfl (da_cons (d_bin o_mul (d_bin o_mul (d_int) (d_var 0)) (d_var 0)) (da_nil))) (d_var 0)) (d_int))) (ds_cons (d_for PassesOwn.never rfl (di_tup (d_tup (da_cons (d_var 1) (da_cons (d_bin o_add (d_var 1) (d_int)) (da_nil))))) (dg_name 2 nd (.inl rfl)) (ds_one (d_ifS (d_cmpT (o_eq hr.units) (d_ix i_ix (C_pair_by.call hG (hr.mono (by decide)) rfl (da_cons (d_var 2) (da_nil))) (d_int) (fun _ _ => rfl)) (d_var 0) (nomark _)) (ds_one (d_ret (d_ix i_ix (C_pair_by.call hG (hr.mono (by decide)) rfl (da_cons (d_var 2) (da_nil))) (d_int) (fun _ _ => rfl)))) (ds_nil)))) (ds_cons (d_setComp 3 [("number", 2)] rfl nd rfl rfl (sw_true rfl rfl rfl (by decide +kernel)) (di_range2 rfl T.f_range (da_cons (d_callB (c_max2 rfl) rfl T.f_max b_max (da_cons (d_int) (da_cons (d_bin o_sub (d_bin o_sub (d_var 0) (d_var 1)) (d_int)) (da_nil)))) (da_cons (d_bin o_add (d_bin o_sub (d_var 0) (d_var 1)) (d_int)) (da_nil)))) (blkOk_by (by kernel_rfl)) (fun _ _ _ _ _ => dgc_name 2 nd (.inl rfl) rfl (by decide) (.inr rfl)) (fun _ _ _ _ _ => dts_one (d_cmpT (o_eq hr.units) (d_ix i_ix (C_pair_by.call hG (hr.mono (by decide)) rfl (da_cons (d_var 2) (da_nil))) (d_int) (fun _ _ => rfl)) (d_var 0) (nomark _))) (fun _ _ _ _ _ => d_var 2)) (ds_one (d_ret (d_ix i_ix (C_pair_by.call hG (hr.mono (by decide)) rfl (da_cons (d_ix i_ix (d_var 3) (d_int) (fun _ _ => rfl)) (da_nil))) (d_int) (fun _ _ => rfl))))))
theorem cal_mate_of {f : Addr} {fd : FuncData} (F : FunD K "mate_of" "mate_of" (defArgs st_mate_of) (defBody st_mate_of) (defScope st_mate_of) [] [] f fd) (hm : mg "mate_of" = some (.ref f)) (G : FnG P w K mg base CX0 3 f fd ["size"] (spD K 1 F_mate_of)) : Cal P w K mg base 3 "mate_of" 1 F_mate_of := Cal.of F hm G rfl (fun _ _ _ _ _ _ us hl => match us, hl with | [_], _ => rfl)
/-! ### check_two -/
abbrev st_check_two : Stmt := top 14
abbrev N_check_two : List Str := ["one", "other", "least"]
theorem sc_check_two : FnScope N_check_two ["one", "other", "least"] (defScope st_check_two) := ⟨rfl, rfl, rfl, by decide +kernel, rfl, by decide +kernel, by decide +kernel⟩
def b_check_two : MS := mIfS (mOrT (mNotT (mB (mCallF 3 F_is_between (mCons (mVar 0) (mCons (mVar 2) (mCons (mC (.d (.int 1000000000000))) (mNil))))))) (mNotT (mB (mCallF 3 F_is_between (mCons (mVar 1) (mCons (mVar 2) (mCons (mC (.d (.int 1000000000000))) (mNil)))))))) ((fun _ _ => none)) (mSkip)
def F_check_two : Fn := fnD 3 b_check_two
theorem ok_check_two {f : Addr} {fd : FuncData} (F : FunD K "check_two" "check_two" (defArgs st_check_two) (defBody st_check_two) (defScope st_check_two) [] [] f fd) (T : Tx K mg) (C_is_between : Cal P w K mg base 2 "is_between" 3 F_is_between) : FnG P w K mg base CX0 3 f fd ["one", "other", "least"] (spD K 3 F_check_two) := by
  refine fn_mk F (k := 2) sc_check_two rfl rfl (b := b_check_two) fun cdv A outer s H E hG hr => ?_
  have nd := sc_check_two.nd
  exact ds_one (d_ifS (d_w (d_orT (d_notT (d_valT (C_is_between.call hG (hr.mono (by decide)) rfl (da_cons (d_var 0) (da_cons (d_var 2) (da_cons ((T.c_MOST_HEAP.name rfl)) (da_nil))))))) (d_or1 (d_notT (d_valT (C_is_between.call hG (hr.mono (by decide)) rfl (da_cons (d_var 1) (da_cons (d_var 2) (da_cons ((T.c_MOST_HEAP.name rfl)) (da_nil)))))))))) (ds_one (d_never)) (ds_nil))
theorem cal_check_two {f : Addr} {fd : FuncData} (F : FunD K "check_two" "check_two" (defArgs st_check_two) (defBody st_check_two) (defScope st_check_two) [] [] f fd) (hm : mg "check_two" = some (.ref f)) (G : FnG P w K mg base CX0 3 f fd ["one", "other", "least"] (spD K 3 F_check_two)) : Cal P w K mg base 3 "check_two" 3 F_check_two := Cal.of F hm G rfl (fun _ _ _ _ _ _ us hl => match us, hl with | [_, _, _], _ => rfl)
/-! ### is_pair -/
abbrev st_is_pair : Stmt := top 15
abbrev N_is_pair : List Str := ["one", "other", "low", "high"]
theorem sc_is_pair : FnScope N_is_pair ["one", "other"] (defScope st_is_pair) := ⟨rfl, rfl, rfl, by decide +kernel, rfl, by decide +kernel, by decide +kernel⟩
def s_is_pair_0 : MS := mPar2 2 3 (mCons (mCall (pure2 (vInt22 minI)) (mCons (mVar 0) (mCons (mVar 1) (mNil)))) (mCons (mCall (pure2 (vInt22 maxI)) (mCons (mVar 0) (mCons (mVar 1) (mNil)))) (mNil)))
def s_is_pair_1 : MS := mRet (mBin vEq (mCallF 1 F_pair_by (mCons (mBin vSub (mVar 3) (mVar 2)) (mNil))) (mTup (mCons (mVar 2) (mCons (mVar 3) (mNil)))))
def b_is_pair : MS := mSeq (s_is_pair_0) (s_is_pair_1)
def F_is_pair : Fn := fnD 4 b_is_pair
theorem ok_is_pair {f : Addr} {fd : FuncData} (F : FunD K "is_pair" "is_pair" (defArgs st_is_pair) (defBody st_is_pair) (defScope st_is_pair) [] [] f fd) (T : Tx K mg) (C_pair_by : Cal P w K mg base 2 "pair_by" 1 F_pair_by) : FnG P w K mg base CX0 3 f fd ["one", "other"] (spD K 2 F_is_pair) := by
  refine fn_mk F (k := 2) sc_is_pair rfl rfl (b := b_is_pair) fun cdv A outer s H E hG hr => ?_
  have nd := sc_is_pair.nd
  exact ds_cons (d_par2 2 3 rfl nd rfl rfl (da_cons (d_callB (c_min2 rfl) rfl T.f_min b_min (da_cons (d_var 0) (da_cons (d_var 1) (da_nil)))) (da_cons (d_callB (c_max2 rfl) rfl T.f_max b_max (da_cons (d_var 0) (da_cons (d_var 1) (da_nil)))) (da_nil))) rfl) (ds_one (d_ret (d_cmp (o_eq hr.units) (C_pair_by.call hG (hr.mono (by decide)) rfl (da_cons (d_bin o_sub (d_var 3) (d_var 2)) (da_nil))) (d_tup (da_cons (d_var 2) (da_cons (d_var 3) (da_nil)))) (nomark _))))
theorem cal_is_pair {f : Addr} {fd : FuncData} (F : FunD K "is_pair" "is_pair" (defArgs st_is_pair) (defBody st_is_pair) (defScope st_is_pair) [] [] f fd) (hm : mg "is_pair" = some (.ref f)) (G : FnG P w K mg base CX0 3 f fd ["one", "other"] (spD K 2 F_is_pair)) : Cal P w K mg base 3 "is_pair" 2 F_is_pair := Cal.of F hm G rfl (fun _ _ _ _ _ _ us hl => match us, hl with | [_, _], _ => rfl)
/-! ### two_win -/
abbrev st_two_win : Stmt := top 16
abbrev N_two_win : List Str := ["one", "other"]
theorem sc_two_win : FnScope N_two_win ["one", "other"] (defScope st_two_win) := ⟨rfl, rfl, rfl, by decide +kernel, rfl, by decide +kernel, by decide +kernel⟩
def s_two_win_0 : MS := mExpr (mCallF 3 F_check_two (mCons (mVar 0) (mCons (mVar 1) (mCons (mInt 0) (mNil)))))
def s_two_win_1 : MS := mRet (mNot (mCallF 2 F_is_pair (mCons (mVar 0) (mCons (mVar 1) (mNil)))))
def b_two_win : MS := mSeq (s_two_win_0) (s_two_win_1)
def F_two_win : Fn := fnD 2 b_two_win
theorem ok_two_win {f : Addr} {fd : FuncData} (F : FunD K "two_win" "two_win" (defArgs st_two_win) (defBody st_two_win) (defScope st_two_win) [] [] f fd) (C_check_two : Cal P w K mg base 3 "check_two" 3 F_check_two) (C_is_pair : Cal P w K mg base 3 "is_pair" 2 F_is_pair) : FnG P w K mg base CX0 4 f fd ["one", "other"] (spD K 2 F_two_win) := by
  refine fn_mk F (k := 3) sc_two_win rfl rfl (b := b_two_win) fun cdv A outer s H E hG hr => ?_
  have nd := sc_two_win.nd
  exact ds_cons (d_expr (C_check_two.call hG (hr.mono (by decide)) rfl (da_cons (d_var 0) (da_cons (d_var 1) (da_cons (d_int) (da_nil)))))) (ds_one (d_ret (d_not (C_is_pair.call hG (hr.mono (by decide)) rfl (da_cons (d_var 0) (da_cons (d_var 1) (da_nil)))))))
theorem cal_two_win {f : Addr} {fd : FuncData} (F : FunD K "two_win" "two_win" (defArgs st_two_win) (defBody st_two_win) (defScope st_two_win) [] [] f fd) (hm : mg "two_win" = some (.ref f)) (G : FnG P w K mg base CX0 4 f fd ["one", "other"] (spD K 2 F_two_win)) : Cal P w K mg base 4 "two_win" 2 F_two_win := Cal.of F hm G rfl (fun _ _ _ _ _ _ us hl => match us, hl with | [_, _], _ => rfl)
theorem kw_0 {f : Addr} {fd : FuncData} (F : FunD K "two_win" "two_win" (defArgs st_two_win) (defBody st_two_win) (defScope st_two_win) [] [] f fd) (hm : mg "two_win" = some (.ref f)) (G : FnG P w K mg base CX0 4 f fd ["one", "other"] (spD K 2 F_two_win)) : CalK P w K mg base 4 "two_win" 2 F_two_win ["one", "other"] [0, 1] :=
  CalK.of F hm G rfl fun _ _ _ _ _ _ ws hl => match ws, hl with | [], hl => absurd hl (by simp [permL]) | [_], hl => absurd hl (by simp [permL]) | _ :: _ :: _, _ => rfl
/-! ### two_good -/
abbrev st_two_good : Stmt := top 17
abbrev N_two_good : List Str := ["one", "other", "found", "low", "high", "good", "pair"]
theorem sc_two_good : FnScope N_two_good ["one", "other"] (defScope st_two_good) := ⟨rfl, rfl, rfl, by decide +kernel, rfl, by decide +kernel, by decide +kernel⟩
def s_two_good_0 : MS := mExpr (mCallF 3 F_check_two (mCons (mVar 0) (mCons (mVar 1) (mCons (mInt 0) (mNil)))))
def s_two_good_1 : MS := mIfS (mB (mCallF 2 F_is_pair (mCons (mVar 0) (mCons (mVar 1) (mNil))))) (mRet (mTup (mNil))) (mSkip)
def s_two_good_2 : MS := mAsg 2 (mNew (mCons (mTup (mCons (mVar 0) (mCons (mCallF 1 F_mate_of (mCons (mVar 0) (mNil))) (mNil)))) (mCons (mTup (mCons (mCallF 1 F_mate_of (mCons (mVar 1) (mNil))) (mCons (mVar 1) (mNil)))) (mNil))))
def s_two_good_3 : MS := mAsgG (gTup 2 (gCons (gN 3) (gCons (gN 4) (gNil)))) (mCallF 1 F_pair_by (mCons (mCall (pure1 (vInt1 absI)) (mCons (mBin vSub (mVar 0) (mVar 1)) (mNil))) (mNil)))
def s_two_good_4 : MS := mExpr (mMeth isLoc gAppend (mVar 2) (mCons (mIf (mB (mBin vLt (mVar 0) (mVar 1))) (mTup (mCons (mVar 3) (mCons (mVar 4) (mNil)))) (mTup (mCons (mVar 4) (mCons (mVar 3) (mNil))))) (mNil)))
def s_two_good_5 : MS := mAsg 5 (mComp (iS (mVar 2)) (gN 6) (mAndT (mB (mBin vLe (mBin vIx (mVar 6) (mInt 0)) (mVar 0))) (mB (mBin vLe (mBin vIx (mVar 6) (mInt 1)) (mVar 1)))) (mVar 6) [6])
def s_two_good_6 : MS := mRet (mCall (pure1 vTuple) (mCons (mCall (pure1 vSortedSet) (mCons (mVar 5) mNil)) (mNil)))
def b_two_good : MS := mSeq (s_two_good_0) (mSeq (s_two_good_1) (mSeq (s_two_good_2) (mSeq (s_two_good_3) (mSeq (s_two_good_4) (mSeq (mFrzV 2) (mSeq (s_two_good_5) (s_two_good_6)))))))
def F_two_good : Fn := fnD 7 b_two_good
theorem ok_two_good {f : Addr} {fd : FuncData} (F : FunD K "two_good" "two_good" (defArgs st_two_good) (defBody st_two_good) (defScope st_two_good) [] [] f fd) (T : Tx K mg) (C_check_two : Cal P w K mg base 3 "check_two" 3 F_check_two) (C_is_pair : Cal P w K mg base 3 "is_pair" 2 F_is_pair) (C_mate_of : Cal P w K mg base 3 "mate_of" 1 F_mate_of) (C_pair_by : Cal P w K mg base 2 "pair_by" 1 F_pair_by) : FnG P w K mg base CX0 4 f fd ["one", "other"] (spD K 2 F_two_good) := by
  refine fn_mk F (k := 3) sc_two_good rfl rfl (b := b_two_good) fun cdv A outer s H E hG hr => ?_
  have nd := sc_two_good.nd
  exact ds_cons (d_expr (C_check_two.call hG (hr.mono (by decide)) rfl (da_cons (d_var 0) (da_cons (d_var 1) (da_cons (d_int) (da_nil)))))) (ds_cons (d_ifS (d_valT (C_is_pair.call hG (hr.mono (by decide)) rfl (da_cons (d_var 0) (da_cons (d_var 1) (da_nil))))) (ds_one (d_ret (d_tup (da_nil)))) (ds_nil)) (ds_cons (d_set 2 nd (.inl rfl) (d_new (da_cons (d_tup (da_cons (d_var 0) (da_cons (C_mate_of.call hG (hr.mono (by decide)) rfl (da_cons (d_var 0) (da_nil))) (da_nil)))) (da_cons (d_tup (da_cons (C_mate_of.call hG (hr.mono (by decide)) rfl (da_cons (d_var 1) (da_nil))) (da_cons (d_var 1) (da_nil)))) (da_nil))))) (ds_cons (d_asg (C_pair_by.call hG (hr.mono (by decide)) rfl (da_cons (d_callB (c_abs) rfl T.f_abs b_abs (da_cons (d_bin o_sub (d_var 0) (d_var 1)) (da_nil))) (da_nil))) (dg_tup rfl (dgs_cons (dg_name 3 nd (.inl rfl)) (dgs_cons (dg_name 4 nd (.inl rfl)) (dgs_nil))))) (ds_cons (d_expr (d_meth PySem.F.plainAttrs_list PySem.F.slot_list_append PySem.F.type_list_append t_append ty_list (d_var 2) (da_cons (d_if (d_cmpT o_lt (d_var 0) (d_var 1) (nomark _)) (d_tup (da_cons (d_var 3) (da_cons (d_var 4) (da_nil)))) (d_tup (da_cons (d_var 4) (da_cons (d_var 3) (da_nil))))) (da_nil)))) (ds_frz (ds_cons (d_setComp 5 [("pair", 6)] rfl nd rfl rfl (sw_true rfl rfl rfl (by decide +kernel)) (di_seq (d_var 2)) (blkOk_by (by kernel_rfl)) (fun _ _ _ _ _ => dgc_name 6 nd (.inl rfl) rfl (by decide) (.inr rfl)) (fun _ _ _ _ _ => dts_one (d_w (d_andT (d_cmpT o_le (d_ix i_ix (d_var 6) (d_int) (fun _ _ => rfl)) (d_var 0) (nomark _)) (d_and1 (d_cmpT o_le (d_ix i_ix (d_var 6) (d_int) (fun _ _ => rfl)) (d_var 1) (nomark _)))))) (fun _ _ _ _ _ => d_var 6)) (ds_one (d_ret (d_callTy (c_tuple) rfl T.f_tuple b_tuple (da_cons (d_sortedSet rfl hr.units rfl T.f_sorted rfl T.f_set (d_var 5)) (da_nil)))))))))))
theorem cal_two_good {f : Addr} {fd : FuncData} (F : FunD K "two_good" "two_good" (defArgs st_two_good) (defBody st_two_good) (defScope st_two_good) [] [] f fd) (hm : mg "two_good" = some (.ref f)) (G : FnG P w K mg base CX0 4 f fd ["one", "other"] (spD K 2 F_two_good)) : Cal P w K mg base 4 "two_good" 2 F_two_good := Cal.of F hm G rfl (fun _ _ _ _ _ _ us hl => match us, hl with | [_, _], _ => rfl)
theorem kw_1 {f : Addr} {fd : FuncData} (F : FunD K "two_good" "two_good" (defArgs st_two_good) (defBody st_two_good) (defScope st_two_good) [] [] f fd) (hm : mg "two_good" = some (.ref f)) (G : FnG P w K mg base CX0 4 f fd ["one", "other"] (spD K 2 F_two_good)) : CalK P w K mg base 4 "two_good" 2 F_two_good ["one", "other"] [0, 1] :=
  CalK.of F hm G rfl fun _ _ _ _ _ _ ws hl => match ws, hl with | [], hl => absurd hl (by simp [permL]) | [_], hl => absurd hl (by simp [permL]) | _ :: _ :: _, _ => rfl
/-! ### euclid_wins -/
abbrev st_euclid_wins : Stmt := top 20
abbrev N_euclid_wins : List Str := ["one", "other"]
theorem sc_euclid_wins : FnScope N_euclid_wins ["one", "other"] (defScope st_euclid_wins) := ⟨rfl, rfl, rfl, by decide +kernel, rfl, by decide +kernel, by decide +kernel⟩
def s_euclid_wins_0 : MS := mExpr (mCallF 3 F_check_two (mCons (mVar 0) (mCons (mVar 1) (mCons (mInt 1) (mNil)))))
def s_euclid_wins_1 : MS := mRet (mCallF 2 F_is_euclid_won (mCons (mVar 0) (mCons (mVar 1) (mNil))))
def b_euclid_wins : MS := mSeq (s_euclid_wins_0) (s_euclid_wins_1)
def F_euclid_wins : Fn := fnD 2 b_euclid_wins
theorem ok_euclid_wins {f : Addr} {fd : FuncData} (F : FunD K "euclid_wins" "euclid_wins" (defArgs st_euclid_wins) (defBody st_euclid_wins) (defScope st_euclid_wins) [] [] f fd) (C_check_two : Cal P w K mg base 3 "check_two" 3 F_check_two) (C_is_euclid_won : Cal P w K mg base 2 "is_euclid_won" 2 F_is_euclid_won) : FnG P w K mg base CX0 4 f fd ["one", "other"] (spD K 2 F_euclid_wins) := by
  refine fn_mk F (k := 3) sc_euclid_wins rfl rfl (b := b_euclid_wins) fun cdv A outer s H E hG hr => ?_
  have nd := sc_euclid_wins.nd
  exact ds_cons (d_expr (C_check_two.call hG (hr.mono (by decide)) rfl (da_cons (d_var 0) (da_cons (d_var 1) (da_cons (d_int) (da_nil)))))) (ds_one (d_ret (C_is_euclid_won.call hG (hr.mono (by decide)) rfl (da_cons (d_var 0) (da_cons (d_var 1) (da_nil))))))
theorem cal_euclid_wins {f : Addr} {fd : FuncData} (F : FunD K "euclid_wins" "euclid_wins" (defArgs st_euclid_wins) (defBody st_euclid_wins) (defScope st_euclid_wins) [] [] f fd) (hm : mg "euclid_wins" = some (.ref f)) (G : FnG P w K mg base CX0 4 f fd ["one", "other"] (spD K 2 F_euclid_wins)) : Cal P w K mg base 4 "euclid_wins" 2 F_euclid_wins := Cal.of F hm G rfl (fun _ _ _ _ _ _ us hl => match us, hl with | [_, _], _ => rfl)
theorem kw_2 {f : Addr} {fd : FuncData} (F : FunD K "euclid_wins" "euclid_wins" (defArgs st_euclid_wins) (defBody st_euclid_wins) (defScope st_euclid_wins) [] [] f fd) (hm : mg "euclid_wins" = some (.ref f)) (G : FnG P w K mg base CX0 4 f fd ["one", "other"] (spD K 2 F_euclid_wins)) : CalK P w K mg base 4 "euclid_wins" 2 F_euclid_wins ["one", "other"] [0, 1] :=
  CalK.of F hm G rfl fun _ _ _ _ _ _ ws hl => match ws, hl with | [], hl => absurd hl (by simp [permL]) | [_], hl => absurd hl (by simp [permL]) | _ :: _ :: _, _ => rfl
/-! ### euclid_good -/
abbrev st_euclid_good : Stmt := top 21
abbrev N_euclid_good : List Str := ["one", "other", "low", "high", "most", "some", "times"]
theorem sc_euclid_good : FnScope N_euclid_good ["one", "other"] (defScope st_euclid_good) := ⟨rfl, rfl, rfl, by decide +kernel, rfl, by decide +kernel, by decide +kernel⟩
def s_euclid_good_0 : MS := mExpr (mCallF 3 F_check_two (mCons (mVar 0) (mCons (mVar 1) (mCons (mInt 1) (mNil)))))
def s_euclid_good_1 : MS := mAsgG (gTup 2 (gCons (gN 2) (gCons (gN 3) (gNil)))) (mTup (mCons (mCall (pure2 (vInt22 minI)) (mCons (mVar 0) (mCons (mVar 1) (mNil)))) (mCons (mCall (pure2 (vInt22 maxI)) (mCons (mVar 0) (mCons (mVar 1) (mNil)))) (mNil))))
def s_euclid_good_2 : MS := mAsg 5 (mComp (iT (mTup (mCons (mBin vSub (mVar 4) (mInt 1)) (mCons (mVar 4) (mNil))))) (gN 6) (mB (mBin vGt (mVar 6) (mInt 0))) (mVar 6) [6])
def s_euclid_good_3 : MS := mRet (mCall (pure1 vTuple) (mCons (mComp (iS (mVar 5)) (gN 6) (mNotT (mB (mCallF 2 F_is_euclid_won (mCons (mVar 2) (mCons (mBin vSub (mVar 3) (mBin vMul (mVar 6) (mVar 2))) (mNil)))))) (mVar 6) [6]) (mNil)))
def b_euclid_good : MS := mSeq (s_euclid_good_0) (mSeq (s_euclid_good_1) (mSeq (mAsg 4 (mBin vFdiv (mVar 3) (mVar 2))) (mSeq (s_euclid_good_2) (s_euclid_good_3))))
def F_euclid_good : Fn := fnD 7 b_euclid_good
theorem ok_euclid_good {f : Addr} {fd : FuncData} (F : FunD K "euclid_good" "euclid_good" (defArgs st_euclid_good) (defBody st_euclid_good) (defScope st_euclid_good) [] [] f fd) (T : Tx K mg) (C_check_two : Cal P w K mg base 3 "check_two" 3 F_check_two) (C_is_euclid_won : Cal P w K mg base 2 "is_euclid_won" 2 F_is_euclid_won) : FnG P w K mg base CX0 4 f fd ["one", "other"] (spD K 2 F_euclid_good) := by
  refine fn_mk F (k := 3) sc_euclid_good rfl rfl (b := b_euclid_good) fun cdv A outer s H E hG hr => ?_
  have nd := sc_euclid_good.nd
  exact ds_cons (d_expr (C_check_two.call hG (hr.mono (by decide)) rfl (da_cons (d_var 0) (da_cons (d_var 1) (da_cons (d_int) (da_nil)))))) (ds_cons (d_asg (d_tup (da_cons (d_callB (c_min2 rfl) rfl T.f_min b_min (da_cons (d_var 0) (da_cons (d_var 1) (da_nil)))) (da_cons (d_callB (c_max2 rfl) rfl T.f_max b_max (da_cons (d_var 0) (da_cons (d_var 1) (da_nil)))) (da_nil)))) (dg_tup rfl (dgs_cons (dg_name 2 nd (.inr rfl)) (dgs_cons (dg_name 3 nd (.inr rfl)) (dgs_nil))))) (ds_cons (d_set 4 nd (.inl rfl) (d_bin o_fdiv (d_var 3) (d_var 2))) (ds_cons (d_setComp 5 [("times", 6)] rfl nd rfl rfl (sw_true rfl rfl rfl (by decide +kernel)) (di_tup (d_tup (da_cons (d_bin o_sub (d_var 4) (d_int)) (da_cons (d_var 4) (da_nil))))) (blkOk_by (by kernel_rfl)) (fun _ _ _ _ _ => dgc_name 6 nd (.inl rfl) rfl (by decide) (.inr rfl)) (fun _ _ _ _ _ => dts_one (d_cmpT o_gt (d_var 6) (d_int) (nomark _))) (fun _ _ _ _ _ => d_var 6)) (ds_one (d_ret (d_callTy (c_tuple) rfl T.f_tuple b_tuple (da_cons (d_comp [("times", 6)] rfl nd (di_seq (d_var 5)) (blkOk_by (by kernel_rfl)) (fun _ _ _ _ _ => dgc_name 6 nd (.inl rfl) rfl (by decide) (.inr rfl)) (fun _ _ _ _ _ => dts_one (d_notT (d_valT (C_is_euclid_won.call hG (hr.mono (by decide)) rfl (da_cons (d_var 2) (da_cons (d_bin o_sub (d_var 3) (d_bin o_mul (d_var 6) (d_var 2))) (da_nil))))))) (fun _ _ _ _ _ => d_var 6)) (da_nil))))))))
theorem cal_euclid_good {f : Addr} {fd : FuncData} (F : FunD K "euclid_good" "euclid_good" (defArgs st_euclid_good) (defBody st_euclid_good) (defScope st_euclid_good) [] [] f fd) (hm : mg "euclid_good" = some (.ref f)) (G : FnG P w K mg base CX0 4 f fd ["one", "other"] (spD K 2 F_euclid_good)) : Cal P w K mg base 4 "euclid_good" 2 F_euclid_good := Cal.of F hm G rfl (fun _ _ _ _ _ _ us hl => match us, hl with | [_, _], _ => rfl)
theorem kw_3 {f : Addr} {fd : FuncData} (F : FunD K "euclid_good" "euclid_good" (defArgs st_euclid_good) (defBody st_euclid_good) (defScope st_euclid_good) [] [] f fd) (hm : mg "euclid_good" = some (.ref f)) (G : FnG P w K mg base CX0 4 f fd ["one", "other"] (spD K 2 F_euclid_good)) : CalK P w K mg base 4 "euclid_good" 2 F_euclid_good ["one", "other"] [0, 1] :=
  CalK.of F hm G rfl fun _ _ _ _ _ _ ws hl => match ws, hl with | [], hl => absurd hl (by simp [permL]) | [_], hl => absurd hl (by simp [permL]) | _ :: _ :: _, _ => rfl
/-! ### _law_are_pairs_right -/
abbrev st_law_are_pairs_right : Stmt := top 30
abbrev N_law_are_pairs_right : List Str := ["seen", "number", "low", "one"]
theorem sc_law_are_pairs_right : FnScope N_law_are_pairs_right [] (defScope st_law_are_pairs_right) := ⟨rfl, rfl, rfl, by decide +kernel, rfl, by decide +kernel, by decide +kernel⟩
def s_law_are_pairs_right_0 : MS := mAsg 2 (mCall (pure1 vMinL) (mCons (mComp (iR1 (mCons (mBin vAdd (mCall (pure1 vLen) (mCons (mVar 0) (mNil))) (mInt 1)) (mNil))) (gN 3) (mB (mBin vNotIn (mVar 3) (mVar 0))) (mVar 3) [3]) (mNil)))
def s_law_are_pairs_right_1 : MS := mIfS (mB (mBin vNe (mCall (pure1 vRepr) (mCons (mCallK [0] 1 F_wythoff (mCons (mCall (pure1 vInt) (mCons (mVar 1) (mNil))) (mNil))) (mNil))) (mCall (pure1 vRepr) (mCons (mTup (mCons (mCall (pure1 vInt) (mCons (mVar 2) (mNil))) (mCons (mCall (pure1 vInt) (mCons (mBin vAdd (mVar 2) (mVar 1)) (mNil))) (mNil)))) (mNil))))) (mRet (mBool false)) (mSkip)
def s_law_are_pairs_right_2 : MS := mExpr (mMeth isLoc gExtend (mVar 0) (mCons (mLst (mCons (mVar 2) (mCons (mBin vAdd (mVar 2) (mVar 1)) (mNil)))) (mNil)))
def l_law_are_pairs_right_3 : MS := mSeq (s_law_are_pairs_right_0) (mSeq (s_law_are_pairs_right_1) (s_law_are_pairs_right_2))
def s_law_are_pairs_right_4 : MS := mFor (iR1 (mCons (mInt 60) (mNil))) (gN 1) (l_law_are_pairs_right_3)
def b_law_are_pairs_right : MS := mSeq (mAsg 0 (mNew (mNil))) (mSeq (s_law_are_pairs_right_4) (mRet (mBool true)))
def F_law_are_pairs_right : Fn := fnD 4 b_law_are_pairs_right
theorem ok_law_are_pairs_right {f : Addr} {fd : FuncData} (F : FunD K "_law_are_pairs_right" "_law_are_pairs_right" (defArgs st_law_are_pairs_right) (defBody st_law_are_pairs_right) (defScope st_law_are_pairs_right) [] [] f fd) (T : Tx K mg) (KC4 : CalK P w K mg base 3 "wythoff" 1 F_wythoff ["number"] [0]) : FnG P w K mg base CX0 4 f fd [] (spD K 0 F_law_are_pairs_right) := by
  refine fn_mk F (k := 3) sc_law_are_pairs_right rfl rfl (b := b_law_are_pairs_right) fun cdv A outer s H E hG hr => ?_
  have nd := sc_law_are_pairs_right.nd
  exact ds_cons (d_set 0 nd (.inr rfl) (d_new (da_nil))) (ds_cons (d_for PassesOwn.never rfl (di_range1 rfl T.f_range (da_cons (d_int) (da_nil))) (dg_name 1 nd (.inl rfl)) (ds_cons (d_set 2 nd (.inl rfl) (d_callB (c_minL rfl) rfl T.f_min b_min (da_cons (d_comp [("one", 3)] rfl nd (di_range1 rfl T.f_range (da_cons (d_bin o_add (d_callB (c_len) rfl T.f_len b_len (da_cons (d_var 0) (da_nil))) (d_int)) (da_nil))) (blkOk_by (by kernel_rfl)) (fun _ _ _ _ _ => dgc_name 3 nd (.inl rfl) rfl (by decide) (.inr rfl)) (fun _ _ _ _ _ => dts_one (d_cmpT (o_notIn (u65 hr)) (d_var 3) (d_var 0) (by rfl))) (fun _ _ _ _ _ => d_var 3)) (da_nil)))) (ds_cons (d_ifS (d_cmpT (o_ne hr.units) (d_callB (c_repr hG (u66 hr)) rfl T.f_repr b_repr (da_cons (KC4.callK hG (hr.mono (by decide)) rfl (dk_cons (d_callTy (c_int) rfl T.f_int b_int (da_cons (d_var 1) (da_nil))) (dk_nil))) (da_nil))) (d_callB (c_repr hG (u66 hr)) rfl T.f_repr b_repr (da_cons (d_tup (da_cons (d_callTy (c_int) rfl T.f_int b_int (da_cons (d_var 2) (da_nil))) (da_cons (d_callTy (c_int) rfl T.f_int b_int (da_cons (d_bin o_add (d_var 2) (d_var 1)) (da_nil))) (da_nil)))) (da_nil))) (nomark _)) (ds_one (d_ret (d_bool))) (ds_nil)) (ds_one (d_expr (d_meth PySem.F.plainAttrs_list PySem.F.slot_list_extend PySem.F.type_list_extend t_extend ty_list (d_var 0) (da_cons (d_lst (da_cons (d_var 2) (da_cons (d_bin o_add (d_var 2) (d_var 1)) (da_nil)))) (da_nil)))))))) (ds_one (d_ret (d_bool))))
theorem cal_law_are_pairs_right {f : Addr} {fd : FuncData} (F : FunD K "_law_are_pairs_right" "_law_are_pairs_right" (defArgs st_law_are_pairs_right) (defBody st_law_are_pairs_right) (defScope st_law_are_pairs_right) [] [] f fd) (hm : mg "_law_are_pairs_right" = some (.ref f)) (G : FnG P w K mg base CX0 4 f fd [] (spD K 0 F_law_are_pairs_right)) : Cal P w K mg base 4 "_law_are_pairs_right" 0 F_law_are_pairs_right := Cal.of F hm G rfl (fun _ _ _ _ _ _ us hl => match us, hl with | [], _ => rfl)
/-! ### _law_are_great_right -/
abbrev st_law_are_great_right : Stmt := top 31
abbrev N_law_are_great_right : List Str := ["pot", "number", "low", "high", "here", "there", "more", "one", "other", "small", "great", "won", "times", "left"]
theorem sc_law_are_great_right : FnScope N_law_are_great_right ["pot"] (defScope st_law_are_great_right) := ⟨rfl, rfl, rfl, by decide +kernel, rfl, by decide +kernel, by decide +kernel⟩
def s_law_are_great_right_0 : MS := mAsg 1 (mCall (pure1 vInt) (mCons (mCallF 2 F_law_take (mCons (mVar 0) (mCons (mBin vAdd (mBin vPow (mInt 10) (mInt 9)) (mInt 1)) (mNil)))) (mNil)))
def s_law_are_great_right_1 : MS := mAsgG (gTup 2 (gCons (gN 2) (gCons (gN 3) (gNil)))) (mCallF 1 F_wythoff (mCons (mVar 1) (mNil)))
def s_law_are_great_right_2 : MS := mPar2 4 5 (mCons (mBin vSub (mBin vMul (mInt 2) (mVar 2)) (mVar 1)) (mCons (mBin vSub (mBin vAdd (mBin vMul (mInt 2) (mVar 2)) (mInt 2)) (mVar 1)) (mNil)))
def s_law_are_great_right_3 : MS := mIfS (mOrT (mB (mBin vNe (mBin vSub (mVar 3) (mVar 2)) (mVar 1))) (mOrT (mB (mBin vGt (mBin vMul (mVar 4) (mVar 4)) (mBin vMul (mBin vMul (mInt 5) (mVar 1)) (mVar 1)))) (mB (mBin vLe (mBin vMul (mVar 5) (mVar 5)) (mBin vMul (mBin vMul (mInt 5) (mVar 1)) (mVar 1)))))) (mRet (mBool false)) (mSkip)
def s_law_are_great_right_4 : MS := mIfS (mOrT (mB (mBin vIsNB (mCallF 2 F_two_win (mCons (mVar 2) (mCons (mVar 3) (mNil)))) (mBool false))) (mOrT (mB (mBin vIsNB (mCallF 2 F_two_win (mCons (mVar 3) (mCons (mVar 2) (mNil)))) (mBool false))) (mB (mBin vNe (mCallF 2 F_two_good (mCons (mVar 3) (mCons (mVar 2) (mNil)))) (mTup (mNil)))))) (mRet (mBool false)) (mSkip)
def s_law_are_great_right_5 : MS := mAsg 6 (mCall (pure1 vInt) (mCons (mBin vAdd (mInt 1) (mCallF 2 F_law_take (mCons (mVar 0) (mCons (mBin vPow (mInt 10) (mInt 6)) (mNil))))) (mNil)))
def s_law_are_great_right_6 : MS := mIfS (mOrT (mB (mBin vIsNB (mCallF 2 F_two_win (mCons (mVar 2) (mCons (mBin vAdd (mVar 3) (mVar 6)) (mNil)))) (mBool true))) (mB (mBin vNotIn (mTup (mCons (mVar 2) (mCons (mVar 3) (mNil)))) (mCallF 2 F_two_good (mCons (mVar 2) (mCons (mBin vAdd (mVar 3) (mVar 6)) (mNil))))))) (mRet (mBool false)) (mSkip)
def s_law_are_great_right_7 : MS := mIfS (mB (mBin vNotIn (mTup (mCons (mVar 2) (mCons (mVar 3) (mNil)))) (mCallF 2 F_two_good (mCons (mBin vAdd (mVar 2) (mVar 6)) (mCons (mBin vAdd (mVar 3) (mVar 6)) (mNil)))))) (mRet (mBool false)) (mSkip)
def l_law_are_great_right_8 : MS := mIfS (mB (mBin vIsNB (mCallF 2 F_two_win (mCons (mVar 7) (mCons (mVar 8) (mNil)))) (mBool false))) (mRet (mBool false)) (mSkip)
def s_law_are_great_right_9 : MS := mFor (iT (mCallF 2 F_two_good (mCons (mBin vAdd (mVar 3) (mVar 6)) (mCons (mVar 2) (mNil))))) (gTup 2 (gCons (gN 7) (gCons (gN 8) (gNil)))) (l_law_are_great_right_8)
def s_law_are_great_right_10 : MS := mPar2 7 8 (mCons (mCall (pure1 vInt) (mCons (mBin vAdd (mInt 1) (mCallF 2 F_law_take (mCons (mVar 0) (mCons (mBin vPow (mInt 10) (mInt 12)) (mNil))))) (mNil))) (mCons (mCall (pure1 vInt) (mCons (mBin vAdd (mInt 1) (mCallF 2 F_law_take (mCons (mVar 0) (mCons (mBin vPow (mInt 10) (mInt 12)) (mNil))))) (mNil))) (mNil)))
def s_law_are_great_right_11 : MS := mPar2 9 10 (mCons (mCall (pure2 (vInt22 minI)) (mCons (mVar 7) (mCons (mVar 8) (mNil)))) (mCons (mCall (pure2 (vInt22 maxI)) (mCons (mVar 7) (mCons (mVar 8) (mNil)))) (mNil)))
def s_law_are_great_right_12 : MS := mAsg 11 (mOr (mBin vEq (mVar 9) (mVar 10)) (mBin vGt (mBin vPow (mBin vSub (mBin vMul (mInt 2) (mVar 10)) (mVar 9)) (mInt 2)) (mBin vMul (mBin vMul (mInt 5) (mVar 9)) (mVar 9))))
def s_law_are_great_right_13 : MS := mIfS (mOrT (mB (mBin vNe (mCallF 2 F_euclid_wins (mCons (mVar 7) (mCons (mVar 8) (mNil)))) (mVar 11))) (mB (mBin vNe (mBin vNe (mCallF 2 F_euclid_good (mCons (mVar 7) (mCons (mVar 8) (mNil)))) (mTup (mNil))) (mVar 11)))) (mRet (mBool false)) (mSkip)
def s_law_are_great_right_14 : MS := mAsg 13 (mBin vSub (mVar 10) (mBin vMul (mVar 12) (mVar 9)))
def s_law_are_great_right_15 : MS := mIfS (mOrT (mB (mBin vLt (mVar 13) (mInt 0))) (mAndT (mB (mBin vGt (mVar 13) (mInt 0))) (mB (mBin vIsNB (mCallF 2 F_euclid_wins (mCons (mVar 9) (mCons (mVar 13) (mNil)))) (mBool false))))) (mRet (mBool false)) (mSkip)
def l_law_are_great_right_16 : MS := mSeq (s_law_are_great_right_14) (s_law_are_great_right_15)
def s_law_are_great_right_17 : MS := mFor (iT (mCallF 2 F_euclid_good (mCons (mVar 7) (mCons (mVar 8) (mNil))))) (gN 12) (l_law_are_great_right_16)
def b_law_are_great_right : MS := mSeq (s_law_are_great_right_0) (mSeq (s_law_are_great_right_1) (mSeq (s_law_are_great_right_2) (mSeq (s_law_are_great_right_3) (mSeq (s_law_are_great_right_4) (mSeq (s_law_are_great_right_5) (mSeq (s_law_are_great_right_6) (mSeq (s_law_are_great_right_7) (mSeq (s_law_are_great_right_9) (mSeq (s_law_are_great_right_10) (mSeq (s_law_are_great_right_11) (mSeq (s_law_are_great_right_12) (mSeq (s_law_are_great_right_13) (mSeq (s_law_are_great_right_17) (mRet (mBool true)))))))))))))))
def F_law_are_great_right : Fn := fnD 14 b_law_are_great_right
theorem ok_law_are_great_right {f : Addr} {fd : FuncData} (F : FunD K "_law_are_great_right" "_law_are_great_right" (defArgs st_law_are_great_right) (defBody st_law_are_great_right) (defScope st_law_are_great_right) [] [] f fd) (T : Tx K mg) (C_law_take : Cal P w K mg base 1 "_law_take" 2 F_law_take) (C_wythoff : Cal P w K mg base 3 "wythoff" 1 F_wythoff) (C_two_win : Cal P w K mg base 4 "two_win" 2 F_two_win) (C_two_good : Cal P w K mg base 4 "two_good" 2 F_two_good) (C_euclid_wins : Cal P w K mg base 4 "euclid_wins" 2 F_euclid_wins) (C_euclid_good : Cal P w K mg base 4 "euclid_good" 2 F_euclid_good) : FnG P w K mg base CX0 5 f fd ["pot"] (spD K 1 F_law_are_great_right) := by
  refine fn_mk F (k := 4) sc_law_are_great_right rfl rfl (b := b_law_are_great_right) fun cdv A outer s H E hG hr => ?_
  have nd := sc_law_are_great_right.nd
  exact ds_cons (d_set 1 nd (.inl rfl) (d_callTy (c_int) rfl T.f_int b_int (da_cons (C_law_take.call hG (hr.mono (by decide)) rfl (da_cons (d_var 0) (da_cons (d_bin o_add (d_bin o_pow (d_int) (d_int)) (d_int)) (da_nil)))) (da_nil)))) (ds_cons (d_asg (C_wythoff.call hG (hr.mono (by decide)) rfl (da_cons (d_var 1) (da_nil))) (dg_tup rfl (dgs_cons (dg_name 2 nd (.inl rfl)) (dgs_cons (dg_name 3 nd (.inl rfl)) (dgs_nil))))) (ds_cons (d_par2 4 5 rfl nd rfl rfl (da_cons (d_bin o_sub (d_bin o_mul (d_int) (d_var 2)) (d_var 1)) (da_cons (d_bin o_sub (d_bin o_add (d_bin o_mul (d_int) (d_var 2)) (d_int)) (d_var 1)) (da_nil))) rfl) (ds_cons (d_ifS (d_w (d_orT (d_cmpT (o_ne hr.units) (d_bin o_sub (d_var 3) (d_var 2)) (d_var 1) (nomark _)) (d_orT (d_cmpT o_gt (d_bin o_mul (d_var 4) (d_var 4)) (d_bin o_mul (d_bin o_mul (d_int) (d_var 1)) (d_var 1)) (nomark _)) (d_or1 (d_cmpT o_le (d_bin o_mul (d_var 5) (d_var 5)) (d_bin o_mul (d_bin o_mul (d_int) (d_var 1)) (d_var 1)) (nomark _)))))) (ds_one (d_ret (d_bool))) (ds_nil)) (ds_cons (d_ifS (d_w (d_orT (d_cmpT o_isNB (C_two_win.call hG (hr.mono (by decide)) rfl (da_cons (d_var 2) (da_cons (d_var 3) (da_nil)))) (d_bool) (nomark _)) (d_orT (d_cmpT o_isNB (C_two_win.call hG (hr.mono (by decide)) rfl (da_cons (d_var 3) (da_cons (d_var 2) (da_nil)))) (d_bool) (nomark _)) (d_or1 (d_cmpT (o_ne hr.units) (C_two_good.call hG (hr.mono (by decide)) rfl (da_cons (d_var 3) (da_cons (d_var 2) (da_nil)))) (d_tup (da_nil)) (nomark _)))))) (ds_one (d_ret (d_bool))) (ds_nil)) (ds_cons (d_set 6 nd (.inl rfl) (d_callTy (c_int) rfl T.f_int b_int (da_cons (d_bin o_add (d_int) (C_law_take.call hG (hr.mono (by decide)) rfl (da_cons (d_var 0) (da_cons (d_bin o_pow (d_int) (d_int)) (da_nil))))) (da_nil)))) (ds_cons (d_ifS (d_w (d_orT (d_cmpT o_isNB (C_two_win.call hG (hr.mono (by decide)) rfl (da_cons (d_var 2) (da_cons (d_bin o_add (d_var 3) (d_var 6)) (da_nil)))) (d_bool) (nomark _)) (d_or1 (d_cmpT (o_notIn (u65 hr)) (d_tup (da_cons (d_var 2) (da_cons (d_var 3) (da_nil)))) (C_two_good.call hG (hr.mono (by decide)) rfl (da_cons (d_var 2) (da_cons (d_bin o_add (d_var 3) (d_var 6)) (da_nil)))) (by rfl))))) (ds_one (d_ret (d_bool))) (ds_nil)) (ds_cons (d_ifS (d_cmpT (o_notIn (u65 hr)) (d_tup (da_cons (d_var 2) (da_cons (d_var 3) (da_nil)))) (C_two_good.call hG (hr.mono (by decide)) rfl (da_cons (d_bin o_add (d_var 2) (d_var 6)) (da_cons (d_bin o_add (d_var 3) (d_var 6)) (da_nil)))) (by rfl)) (ds_one (d_ret (d_bool))) (ds_nil)) (ds_cons (d_for PassesOwn.never rfl (di_tup (C_two_good.call hG (hr.mono (by decide)) rfl (da_cons (d_bin o_add (d_var 3) (d_var 6)) (da_cons (d_var 2) (da_nil))))) (dg_tup rfl (dgs_cons (dg_name 7 nd (.inl rfl)) (dgs_cons (dg_name 8 nd (.inl rfl)) (dgs_nil)))) (ds_one (d_ifS (d_cmpT o_isNB (C_two_win.call hG (hr.mono (by decide)) rfl (da_cons (d_var 7) (da_cons (d_var 8) (da_nil)))) (d_bool) (nomark _)) (ds_one (d_ret (d_bool))) (ds_nil)))) (ds_cons (d_par2 7 8 rfl nd rfl rfl (da_cons (d_callTy (c_int) rfl T.f_int b_int (da_cons (d_bin o_add (d_int) (C_law_take.call hG (hr.mono (by decide)) rfl (da_cons (d_var 0) (da_cons (d_bin o_pow (d_int) (d_int)) (da_nil))))) (da_nil))) (da_cons (d_callTy (c_int) rfl T.f_int b_int (da_cons (d_bin o_add (d_int) (C_law_take.call hG (hr.mono (by decide)) rfl (da_cons (d_var 0) (da_cons (d_bin o_pow (d_int) (d_int)) (da_nil))))) (da_nil))) (da_nil))) rfl) (ds_cons (d_par2 9 10 rfl nd rfl rfl (da_cons (d_callB (c_min2 rfl) rfl T.f_min b_min (da_cons (d_var 7) (da_cons (d_var 8) (da_nil)))) (da_cons (d_callB (c_max2 rfl) rfl T.f_max b_max (da_cons (d_var 7) (da_cons (d_var 8) (da_nil)))) (da_nil))) rfl) (ds_cons (d_set 11 nd (.inl rfl) (d_or (d_cmp (o_eq hr.units) (d_var 9) (d_var 10) (nomark _)) (d_one (d_cmp o_gt (d_bin o_pow (d_bin o_sub (d_bin o_mul (d_int) (d_var 10)) (d_var 9)) (d_int)) (d_bin o_mul (d_bin o_mul (d_int) (d_var 9)) (d_var 9)) (nomark _))))) (ds_cons (d_ifS (d_w (d_orT (d_cmpT (o_ne hr.units) (C_euclid_wins.call hG (hr.mono (by decide)) rfl (da_cons (d_var 7) (da_cons (d_var 8) (da_nil)))) (d_var 11) (nomark _)) (d_or1 (d_cmpT (o_ne hr.units) (d_cmp (o_ne hr.units) (C_euclid_good.call hG (hr.mono (by decide)) rfl (da_cons (d_var 7) (da_cons (d_var 8) (da_nil)))) (d_tup (da_nil)) (nomark _)) (d_var 11) (nomark _))))) (ds_one (d_ret (d_bool))) (ds_nil)) (ds_cons (d_for PassesOwn.never rfl (di_tup (C_euclid_good.call hG (hr.mono (by decide)) rfl (da_cons (d_var 7) (da_cons (d_var 8) (da_nil))))) (dg_name 12 nd (.inl rfl)) (ds_cons (d_set 13 nd (.inl rfl) (d_bin o_sub (d_var 10) (d_bin o_mul (d_var 12) (d_var 9)))) (ds_one (d_ifS (d_w (d_orT (d_cmpT o_lt (d_var 13) (d_int) (nomark _)) (d_or1 (d_w (d_andT (d_cmpT o_gt (d_var 13) (d_int) (nomark _)) (d_and1 (d_cmpT o_isNB (C_euclid_wins.call hG (hr.mono (by decide)) rfl (da_cons (d_var 9) (da_cons (d_var 13) (da_nil)))) (d_bool) (nomark _)))))))) (ds_one (d_ret (d_bool))) (ds_nil))))) (ds_one (d_ret (d_bool))))))))))))))))
theorem cal_law_are_great_right {f : Addr} {fd : FuncData} (F : FunD K "_law_are_great_right" "_law_are_great_right" (defArgs st_law_are_great_right) (defBody st_law_are_great_right) (defScope st_law_are_great_right) [] [] f fd) (hm : mg "_law_are_great_right" = some (.ref f)) (G : FnG P w K mg base CX0 5 f fd ["pot"] (spD K 1 F_law_are_great_right)) : Cal P w K mg base 5 "_law_are_great_right" 1 F_law_are_great_right := Cal.of F hm G rfl (fun _ _ _ _ _ _ us hl => match us, hl with | [_], _ => rfl)
/-! ### _law_are_small_right -/
abbrev st_law_are_small_right : Stmt := top 29
abbrev N_law_are_small_right : List Str := ["pot", "most", "known", "table", "lap", "good", "due", "one", "other", "low", "high", "times", "there"]
theorem sc_law_are_small_right : FnScope N_law_are_small_right ["pot"] (defScope st_law_are_small_right) := ⟨rfl, rfl, rfl, by decide +kernel, rfl, by decide +kernel, by decide +kernel⟩
def s_law_are_small_right_0 : MS := mPar2 1 2 (mCons (mBin vAdd (mInt 12) (mCallF 2 F_law_take (mCons (mVar 0) (mCons (mInt 15) (mNil))))) (mCons (mNewT) (mNil)))
def s_law_are_small_right_1 : MS := mAsg 3 (mCallF 1 F_law_table (mCons (mVar 1) (mNil)))
def s_law_are_small_right_2 : MS := mPar2 7 8 (mCons (mCall (pure1 vInt) (mCons (mCallF 2 F_law_take (mCons (mVar 0) (mCons (mBin vAdd (mVar 1) (mInt 1)) (mNil)))) (mNil))) (mCons (mCall (pure1 vInt) (mCons (mCallF 2 F_law_take (mCons (mVar 0) (mCons (mBin vAdd (mVar 1) (mInt 1)) (mNil)))) (mNil))) (mNil)))
def s_law_are_small_right_3 : MS := mIfS (mB (mBin vNe (mCall (pure1 vRepr) (mCons (mCallK [0, 1] 2 F_two_win (mCons (mVar 7) (mCons (mVar 8) (mNil)))) (mNil))) (mCall (pure1 vRepr) (mCons (mBin vDGet (mVar 3) (mTup (mCons (mVar 7) (mCons (mVar 8) (mNil))))) (mNil))))) (mRet (mBool false)) (mSkip)
def s_law_are_small_right_4 : MS := mAsg 5 (mCall (pure1 vSortedSet) (mCons (mComp (iL (mCallF 2 F_law_there (mCons (mVar 7) (mCons (mVar 8) (mNil))))) (gN 12) (mNotT (mB (mBin vDGet (mVar 3) (mVar 12)))) (mVar 12) [12]) mNil))
def s_law_are_small_right_5 : MS := mIfS (mB (mBin vNe (mCall (pure1 vRepr) (mCons (mCallK [0, 1] 2 F_two_good (mCons (mVar 7) (mCons (mVar 8) (mNil)))) (mNil))) (mCall (pure1 vRepr) (mCons (mCall (pure1 vTuple) (mCons (mVar 5) (mNil))) (mNil))))) (mRet (mBool false)) (mSkip)
def s_law_are_small_right_6 : MS := mPar2 7 8 (mCons (mCall (pure1 vInt) (mCons (mBin vAdd (mInt 1) (mCallF 2 F_law_take (mCons (mVar 0) (mCons (mInt 60) (mNil))))) (mNil))) (mCons (mCall (pure1 vInt) (mCons (mBin vAdd (mInt 1) (mCallF 2 F_law_take (mCons (mVar 0) (mCons (mInt 60) (mNil))))) (mNil))) (mNil)))
def s_law_are_small_right_7 : MS := mIfS (mB (mBin vNe (mCall (pure1 vRepr) (mCons (mCallK [0, 1] 2 F_euclid_wins (mCons (mVar 7) (mCons (mVar 8) (mNil)))) (mNil))) (mCall (pure1 vRepr) (mCons (mCallF 3 (F_law_euclid 64) (mCons (mVar 7) (mCons (mVar 8) (mCons (mVar 2) (mNil))))) (mNil))))) (mRet (mBool false)) (mSkip)
def s_law_are_small_right_8 : MS := mAsgG (gTup 2 (gCons (gN 9) (gCons (gN 10) (gNil)))) (mTup (mCons (mCall (pure2 (vInt22 minI)) (mCons (mVar 7) (mCons (mVar 8) (mNil)))) (mCons (mCall (pure2 (vInt22 maxI)) (mCons (mVar 7) (mCons (mVar 8) (mNil)))) (mNil))))
def s_law_are_small_right_9 : MS := mAsg 6 (mComp (iR2 (mCons (mInt 1) (mCons (mBin vAdd (mBin vFdiv (mVar 10) (mVar 9)) (mInt 1)) (mNil)))) (gN 11) (mNotT (mB (mCallF 3 (F_law_euclid 64) (mCons (mVar 9) (mCons (mBin vSub (mVar 10) (mBin vMul (mVar 11) (mVar 9))) (mCons (mVar 2) (mNil))))))) (mCall (pure1 vInt) (mCons (mVar 11) (mNil))) [11])
def s_law_are_small_right_10 : MS := mIfS (mB (mBin vNe (mCall (pure1 vRepr) (mCons (mCallK [0, 1] 2 F_euclid_good (mCons (mVar 7) (mCons (mVar 8) (mNil)))) (mNil))) (mCall (pure1 vRepr) (mCons (mCall (pure1 vTuple) (mCons (mVar 6) (mNil))) (mNil))))) (mRet (mBool false)) (mSkip)
def l_law_are_small_right_11 : MS := mSeq (s_law_are_small_right_2) (mSeq (s_law_are_small_right_3) (mSeq (s_law_are_small_right_4) (mSeq (s_law_are_small_right_5) (mSeq (s_law_are_small_right_6) (mSeq (s_law_are_small_right_7) (mSeq (s_law_are_small_right_8) (mSeq (s_law_are_small_right_9) (s_law_are_small_right_10))))))))
def s_law_are_small_right_12 : MS := mFor (iR1 (mCons (mInt 12) (mNil))) (gN 4) (l_law_are_small_right_11)
def b_law_are_small_right : MS := mSeq (s_law_are_small_right_0) (mSeq (s_law_are_small_right_1) (mSeq (s_law_are_small_right_12) (mRet (mBool true))))
def F_law_are_small_right : Fn := fnD 13 b_law_are_small_right
theorem ok_law_are_small_right {f : Addr} {fd : FuncData} (F : FunD K "_law_are_small_right" "_law_are_small_right" (defArgs st_law_are_small_right) (defBody st_law_are_small_right) (defScope st_law_are_small_right) [] [] f fd) (T : Tx K mg) (C_law_take : Cal P w K mg base 1 "_law_take" 2 F_law_take) (C_law_table : Cal P w K mg base 2 "_law_table" 1 F_law_table) (C_law_there : Cal P w K mg base 1 "_law_there" 2 F_law_there) (C_law_euclid : Cal P w K mg base 65 "_law_euclid" 3 (F_law_euclid 64)) (KC0 : CalK P w K mg base 4 "two_win" 2 F_two_win ["one", "other"] [0, 1]) (KC1 : CalK P w K mg base 4 "two_good" 2 F_two_good ["one", "other"] [0, 1]) (KC2 : CalK P w K mg base 4 "euclid_wins" 2 F_euclid_wins ["one", "other"] [0, 1]) (KC3 : CalK P w K mg base 4 "euclid_good" 2 F_euclid_good ["one", "other"] [0, 1]) : FnG P w K mg base CX0 66 f fd ["pot"] (spD K 1 F_law_are_small_right) := by
  refine fn_mk F (k := 65) sc_law_are_small_right rfl rfl (b := b_law_are_small_right) fun cdv A outer s H E hG hr => ?_
  have nd := sc_law_are_small_right.nd
  exact ds_cons (d_par2c 1 2 rfl nd (.inl rfl) (.inr rfl) (da_cons (d_bin o_add (d_int) (C_law_take.call hG (hr.mono (by decide)) rfl (da_cons (d_var 0) (da_cons (d_int) (da_nil))))) (da_cons (d_newT) (da_nil)))) (ds_cons (d_set 3 nd (.inr rfl) (C_law_table.call hG (hr.mono (by decide)) rfl (da_cons (d_var 1) (da_nil)))) (ds_cons (d_for PassesOwn.never rfl (di_range1 rfl T.f_range (da_cons (d_int) (da_nil))) (dg_name 4 nd (.inl rfl)) (ds_cons (d_par2 7 8 rfl nd rfl rfl (da_cons (d_callTy (c_int) rfl T.f_int b_int (da_cons (C_law_take.call hG (hr.mono (by decide)) rfl (da_cons (d_var 0) (da_cons (d_bin o_add (d_var 1) (d_int)) (da_nil)))) (da_nil))) (da_cons (d_callTy (c_int) rfl T.f_int b_int (da_cons (C_law_take.call hG (hr.mono (by decide)) rfl (da_cons (d_var 0) (da_cons (d_bin o_add (d_var 1) (d_int)) (da_nil)))) (da_nil))) (da_nil))) rfl) (ds_cons (d_ifS (d_cmpT (o_ne hr.units) (d_callB (c_repr hG (u66 hr)) rfl T.f_repr b_repr (da_cons (KC0.callK hG (hr.mono (by decide)) rfl (dk_cons (d_var 7) (dk_cons (d_var 8) (dk_nil)))) (da_nil))) (d_callB (c_repr hG (u66 hr)) rfl T.f_repr b_repr (da_cons (d_dget (hu_of hr) (d_var 3) (d_tup (da_cons (d_var 7) (da_cons (d_var 8) (da_nil)))) (fun _ _ => rfl)) (da_nil))) (nomark _)) (ds_one (d_ret (d_bool))) (ds_nil)) (ds_cons (d_set 5 nd (.inl rfl) (d_sortedSet rfl hr.units rfl T.f_sorted rfl T.f_set (d_comp [("there", 12)] rfl nd (di_list (C_law_there.call hG (hr.mono (by decide)) rfl (da_cons (d_var 7) (da_cons (d_var 8) (da_nil))))) (blkOk_by (by kernel_rfl)) (fun _ _ _ _ _ => dgc_name 12 nd (.inl rfl) rfl (by decide) (.inr rfl)) (fun _ _ _ _ _ => dts_one (d_notT (d_valT (d_dget (hu_of hr) (d_var 3) (d_var 12) (fun _ _ => rfl))))) (fun _ _ _ _ _ => d_var 12)))) (ds_cons (d_ifS (d_cmpT (o_ne hr.units) (d_callB (c_repr hG (u66 hr)) rfl T.f_repr b_repr (da_cons (KC1.callK hG (hr.mono (by decide)) rfl (dk_cons (d_var 7) (dk_cons (d_var 8) (dk_nil)))) (da_nil))) (d_callB (c_repr hG (u66 hr)) rfl T.f_repr b_repr (da_cons (d_callTy (c_tuple) rfl T.f_tuple b_tuple (da_cons (d_var 5) (da_nil))) (da_nil))) (nomark _)) (ds_one (d_ret (d_bool))) (ds_nil)) (ds_cons (d_par2 7 8 rfl nd rfl rfl (da_cons (d_callTy (c_int) rfl T.f_int b_int (da_cons (d_bin o_add (d_int) (C_law_take.call hG (hr.mono (by decide)) rfl (da_cons (d_var 0) (da_cons (d_int) (da_nil))))) (da_nil))) (da_cons (d_callTy (c_int) rfl T.f_int b_int (da_cons (d_bin o_add (d_int) (C_law_take.call hG (hr.mono (by decide)) rfl (da_cons (d_var 0) (da_cons (d_int) (da_nil))))) (da_nil))) (da_nil))) rfl) (ds_cons (d_ifS (d_cmpT (o_ne hr.units) (d_callB (c_repr hG (u66 hr)) rfl T.f_repr b_repr (da_cons (KC2.callK hG (hr.mono (by decide)) rfl (dk_cons (d_var 7) (dk_cons (d_var 8) (dk_nil)))) (da_nil))) (d_callB (c_repr hG (u66 hr)) rfl T.f_repr b_repr (da_cons (C_law_euclid.call hG (hr.mono (by decide)) rfl (da_cons (d_var 7) (da_cons (d_var 8) (da_cons (d_var 2) (da_nil))))) (da_nil))) (nomark _)) (ds_one (d_ret (d_bool))) (ds_nil)) (ds_cons (d_asg (d_tup (da_cons (d_callB (c_min2 rfl) rfl T.f_min b_min (da_cons (d_var 7) (da_cons (d_var 8) (da_nil)))) (da_cons (d_callB (c_max2 rfl) rfl T.f_max b_max (da_cons (d_var 7) (da_cons (d_var 8) (da_nil)))) (da_nil)))) (dg_tup rfl (dgs_cons (dg_name 9 nd (.inr rfl)) (dgs_cons (dg_name 10 nd (.inr rfl)) (dgs_nil))))) (ds_cons (d_setComp 6 [("times", 11)] rfl nd rfl rfl (sw_true rfl rfl rfl (by decide +kernel)) (di_range2 rfl T.f_range (da_cons (d_int) (da_cons (d_bin o_add (d_bin o_fdiv (d_var 10) (d_var 9)) (d_int)) (da_nil)))) (blkOk_by (by kernel_rfl)) (fun _ _ _ _ _ => dgc_name 11 nd (.inl rfl) rfl (by decide) (.inr rfl)) (fun _ _ _ _ _ => dts_one (d_notT (d_valT (C_law_euclid.call hG (hr.mono (by decide)) rfl (da_cons (d_var 9) (da_cons (d_bin o_sub (d_var 10) (d_bin o_mul (d_var 11) (d_var 9))) (da_cons (d_var 2) (da_nil)))))))) (fun _ _ _ _ _ => d_callTy (c_int) rfl T.f_int b_int (da_cons (d_var 11) (da_nil)))) (ds_one (d_ifS (d_cmpT (o_ne hr.units) (d_callB (c_repr hG (u66 hr)) rfl T.f_repr b_repr (da_cons (KC3.callK hG (hr.mono (by decide)) rfl (dk_cons (d_var 7) (dk_cons (d_var 8) (dk_nil)))) (da_nil))) (d_callB (c_repr hG (u66 hr)) rfl T.f_repr b_repr (da_cons (d_callTy (c_tuple) rfl T.f_tuple b_tuple (da_cons (d_var 6) (da_nil))) (da_nil))) (nomark _)) (ds_one (d_ret (d_bool))) (ds_nil)))))))))))) (ds_one (d_ret (d_bool)))))
theorem cal_law_are_small_right {f : Addr} {fd : FuncData} (F : FunD K "_law_are_small_right" "_law_are_small_right" (defArgs st_law_are_small_right) (defBody st_law_are_small_right) (defScope st_law_are_small_right) [] [] f fd) (hm : mg "_law_are_small_right" = some (.ref f)) (G : FnG P w K mg base CX0 66 f fd ["pot"] (spD K 1 F_law_are_small_right)) : Cal P w K mg base 66 "_law_are_small_right" 1 F_law_are_small_right := Cal.of F hm G rfl (fun _ _ _ _ _ _ us hl => match us, hl with | [_], _ => rfl)
/-! ### law -/
abbrev st_law : Stmt := top 32
abbrev N_law : List Str := ["script", "place", "pot", "lap"]
theorem sc_law : FnScope N_law ["script"] (defScope st_law) := ⟨rfl, rfl, rfl, by decide +kernel, rfl, by decide +kernel, by decide +kernel⟩
def s_law_0 : MS := mAsg 2 (mCallF 2 F_law_pot (mCons (mVar 0) (mCons (mVar 1) (mNil))))
def s_law_1 : MS := mIfS (mOrT (mNotT (mB (mCallF 1 F_law_are_small_right (mCons (mVar 2) (mNil))))) (mNotT (mB (mCall (pure1 vAll) (mCons (mComp (iR1 (mCons (mInt 4) (mNil))) (gN 3) (mYes) (mCallF 1 F_law_are_great_right (mCons (mVar 2) (mNil))) [3]) (mNil)))))) (mRet (mBool false)) (mSkip)
def s_law_2 : MS := mFor (iL (mCallF 2 F_law_cells (mCons (mVar 0) (mCons (mInt 2) (mNil))))) (gN 1) (mSeq (s_law_0) (s_law_1))
def s_law_3 : MS := mRet (mCallF 0 F_law_are_pairs_right mNil)
def b_law : MS := mSeq (s_law_2) (s_law_3)
def F_law : Fn := fnD 4 b_law
theorem ok_law {f : Addr} {fd : FuncData} (F : FunD K "law" "law" (defArgs st_law) (defBody st_law) (defScope st_law) [] [] f fd) (T : Tx K mg) (C_law_cells : Cal P w K mg base 1 "_law_cells" 2 F_law_cells) (C_law_pot : Cal P w K mg base 1 "_law_pot" 2 F_law_pot) (C_law_are_small_right : Cal P w K mg base 66 "_law_are_small_right" 1 F_law_are_small_right) (C_law_are_great_right : Cal P w K mg base 5 "_law_are_great_right" 1 F_law_are_great_right) (C_law_are_pairs_right : Cal P w K mg base 4 "_law_are_pairs_right" 0 F_law_are_pairs_right) : FnG P w K mg base CX0 67 f fd ["script"] (spD K 1 F_law) := by
  refine fn_mk F (k := 66) sc_law rfl rfl (b := b_law) fun cdv A outer s H E hG hr => ?_
  have nd := sc_law.nd
  exact ds_cons (d_for PassesOwn.never rfl (di_list (C_law_cells.call hG (hr.mono (by decide)) rfl (da_cons (d_var 0) (da_cons (d_int) (da_nil))))) (dg_name 1 nd (.inl rfl)) (ds_cons (d_set 2 nd (.inr rfl) (C_law_pot.call hG (hr.mono (by decide)) rfl (da_cons (d_var 0) (da_cons (d_var 1) (da_nil))))) (ds_one (d_ifS (d_w (d_orT (d_notT (d_valT (C_law_are_small_right.call hG (hr.mono (by decide)) rfl (da_cons (d_var 2) (da_nil))))) (d_or1 (d_notT (d_valT (d_callB (c_all rfl) rfl T.f_all b_all (da_cons (d_comp [("lap", 3)] rfl nd (di_range1 rfl T.f_range (da_cons (d_int) (da_nil))) (blkOk_by (by kernel_rfl)) (fun _ _ _ _ _ => dgc_name 3 nd (.inl rfl) rfl (by decide) (.inr rfl)) (fun _ _ _ _ _ => dts_nil) (fun _ _ _ _ _ => C_law_are_great_right.call hG (hr.mono (by decide)) rfl (da_cons (d_var 2) (da_nil)))) (da_nil)))))))) (ds_one (d_ret (d_bool))) (ds_nil))))) (ds_one (d_ret (C_law_are_pairs_right.call0 hG (hr.mono (by decide)) rfl)))
theorem cal_law {f : Addr} {fd : FuncData} (F : FunD K "law" "law" (defArgs st_law) (defBody st_law) (defScope st_law) [] [] f fd) (hm : mg "law" = some (.ref f)) (G : FnG P w K mg base CX0 67 f fd ["script"] (spD K 1 F_law)) : Cal P w K mg base 67 "law" 1 F_law := Cal.of F hm G rfl (fun _ _ _ _ _ _ us hl => match us, hl with | [_], _ => rfl)
end
/-! ### the head -/
def d_is_integer : He.DefD := ⟨("is_integer", none), "is_integer", "is_integer", defArgs st_is_integer, defBody st_is_integer, defScope st_is_integer, [], []⟩
def d_root_of : He.DefD := ⟨("root_of", none), "root_of", "root_of", defArgs st_root_of, defBody st_root_of, defScope st_root_of, [], []⟩
def d_is_golden : He.DefD := ⟨("is_golden", none), "is_golden", "is_golden", defArgs st_is_golden, defBody st_is_golden, defScope st_is_golden, [], []⟩
def d_law_pot : He.DefD := ⟨("_law_pot", none), "_law_pot", "_law_pot", defArgs st_law_pot, defBody st_law_pot, defScope st_law_pot, [], []⟩
def d_law_take : He.DefD := ⟨("_law_take", none), "_law_take", "_law_take", defArgs st_law_take, defBody st_law_take, defScope st_law_take, [], []⟩
def d_law_cells : He.DefD := ⟨("_law_cells", none), "_law_cells", "_law_cells", defArgs st_law_cells, defBody st_law_cells, defScope st_law_cells, [], []⟩
def d_law_there : He.DefD := ⟨("_law_there", none), "_law_there", "_law_there", defArgs st_law_there, defBody st_law_there, defScope st_law_there, [], []⟩
def d_law_euclid : He.DefD := ⟨("_law_euclid", none), "_law_euclid", "_law_euclid", defArgs st_law_euclid, defBody st_law_euclid, defScope st_law_euclid, [], []⟩
def d_is_between : He.DefD := ⟨("is_between", none), "is_between", "is_between", defArgs st_is_between, defBody st_is_between, defScope st_is_between, [], []⟩
def d_pair_by : He.DefD := ⟨("pair_by", none), "pair_by", "pair_by", defArgs st_pair_by, defBody st_pair_by, defScope st_pair_by, [], []⟩
def d_is_euclid_won : He.DefD := ⟨("is_euclid_won", none), "is_euclid_won", "is_euclid_won", defArgs st_is_euclid_won, defBody st_is_euclid_won, defScope st_is_euclid_won, [], []⟩
def d_law_table : He.DefD := ⟨("_law_table", none), "_law_table", "_law_table", defArgs st_law_table, defBody st_law_table, defScope st_law_table, [], []⟩
def d_wythoff : He.DefD := ⟨("wythoff", none), "wythoff", "wythoff", defArgs st_wythoff, defBody st_wythoff, defScope st_wythoff, [], []⟩
def d_mate_of : He.DefD := ⟨("mate_of", none), "mate_of", "mate_of", defArgs st_mate_of, defBody st_mate_of, defScope st_mate_of, [], []⟩
def d_check_two : He.DefD := ⟨("check_two", none), "check_two", "check_two", defArgs st_check_two, defBody st_check_two, defScope st_check_two, [], []⟩
def d_is_pair : He.DefD := ⟨("is_pair", none), "is_pair", "is_pair", defArgs st_is_pair, defBody st_is_pair, defScope st_is_pair, [], []⟩
def d_two_win : He.DefD := ⟨("two_win", none), "two_win", "two_win", defArgs st_two_win, defBody st_two_win, defScope st_two_win, [], []⟩
def d_two_good : He.DefD := ⟨("two_good", none), "two_good", "two_good", defArgs st_two_good, defBody st_two_good, defScope st_two_good, [], []⟩
def d_euclid_wins : He.DefD := ⟨("euclid_wins", none), "euclid_wins", "euclid_wins", defArgs st_euclid_wins, defBody st_euclid_wins, defScope st_euclid_wins, [], []⟩
def d_euclid_good : He.DefD := ⟨("euclid_good", none), "euclid_good", "euclid_good", defArgs st_euclid_good, defBody st_euclid_good, defScope st_euclid_good, [], []⟩
def d_law_are_pairs_right : He.DefD := ⟨("_law_are_pairs_right", none), "_law_are_pairs_right", "_law_are_pairs_right", defArgs st_law_are_pairs_right, defBody st_law_are_pairs_right, defScope st_law_are_pairs_right, [], []⟩
def d_law_are_great_right : He.DefD := ⟨("_law_are_great_right", none), "_law_are_great_right", "_law_are_great_right", defArgs st_law_are_great_right, defBody st_law_are_great_right, defScope st_law_are_great_right, [], []⟩
def d_law_are_small_right : He.DefD := ⟨("_law_are_small_right", none), "_law_are_small_right", "_law_are_small_right", defArgs st_law_are_small_right, defBody st_law_are_small_right, defScope st_law_are_small_right, [], []⟩
def d_law : He.DefD := ⟨("law", none), "law", "law", defArgs st_law, defBody st_law, defScope st_law, [], []⟩
def fns : List He.DefD := [d_is_integer, d_root_of, d_is_golden, d_law_pot, d_law_take, d_law_cells, d_law_there, d_law_euclid, d_is_between, d_pair_by, d_is_euclid_won, d_law_table, d_wythoff, d_mate_of, d_check_two, d_is_pair, d_two_win, d_two_good, d_euclid_wins, d_euclid_good, d_law_are_pairs_right, d_law_are_great_right, d_law_are_small_right, d_law]
def fas : List He.Fa := [.glo "is_integer", .glo "root_of", .glo "is_golden", .glo "_law_pot", .glo "_law_take", .glo "_law_cells", .glo "_law_there", .glo "_law_euclid", .glo "is_between", .glo "pair_by", .glo "is_euclid_won", .glo "_law_table", .glo "wythoff", .glo "mate_of", .glo "check_two", .glo "is_pair", .glo "two_win", .glo "two_good", .glo "euclid_wins", .glo "euclid_good", .glo "_law_are_pairs_right", .glo "_law_are_great_right", .glo "_law_are_small_right", .glo "law", .free "abs", .free "all", .free "any", .free "bool", .free "int", .free "isinstance", .free "len", .free "list", .free "max", .free "min", .free "range", .free "repr", .free "set", .free "sorted", .free "sum", .free "tuple", .int "MOST_HEAP" 1000000000000, .int "MOST_PAIR" 1000000000]
def more (K : PySem.W.Frag) : Bool := true
abbrev R : PySem.W.OpenRow := PySem.W.OpenLaw.row PySem.Challenge.rw_whoeverbegins_k74_whole_two_heaps_and_eu
def names : List PySem.Str := [("__name__" : PySem.Str), ("PlayError" : PySem.Str), ("BadNumber" : PySem.Str), ("BadPair" : PySem.Str), ("is_integer" : PySem.Str), ("is_between" : PySem.Str), ("MOST_HEAP" : PySem.Str), ("MOST_PAIR" : PySem.Str), ("root_of" : PySem.Str), ("pair_by" : PySem.Str), ("wythoff" : PySem.Str), ("mate_of" : PySem.Str), ("check_two" : PySem.Str), ("is_pair" : PySem.Str), ("two_win" : PySem.Str), ("two_good" : PySem.Str), ("is_golden" : PySem.Str), ("is_euclid_won" : PySem.Str), ("euclid_wins" : PySem.Str), ("euclid_good" : PySem.Str), ("_law_pot" : PySem.Str), ("_law_take" : PySem.Str), ("_law_cells" : PySem.Str), ("_law_table" : PySem.Str), ("_law_there" : PySem.Str), ("_law_euclid" : PySem.Str), ("_law_are_small_right" : PySem.Str), ("_law_are_pairs_right" : PySem.Str), ("_law_are_great_right" : PySem.Str)]
def lawPlace : Nat := 32
theorem facts {P : Program} {w : World} {K : PySem.W.Frag} {h : Heap} {mg : Str → Option Value} {f : Addr} (X : K.In h) (G : h.Ns mainGlobals mg) (hfa : mg ("law" : Str) = some (.ref f)) (c : He.SaysD fas fns K) (cm : more K = true) :
    ∃ fd : FuncData, (∀ (s : Shared) (v : Value), BindsTo s fd ⟨[v], []⟩ [("script", v)]) ∧ ∀ base : Heap, FnG P w K mg base CX0 67 f fd ["script"] (spD K 1 F_law) := by
  obtain ⟨fd_is_integer, D_is_integer⟩ := c.def_ 0 (d := d_is_integer) rfl
  have g_is_integer := He.glo_ok X G (c.fact 0 (f := .glo "is_integer") rfl)
  obtain ⟨fd_root_of, D_root_of⟩ := c.def_ 1 (d := d_root_of) rfl
  have g_root_of := He.glo_ok X G (c.fact 1 (f := .glo "root_of") rfl)
  obtain ⟨fd_is_golden, D_is_golden⟩ := c.def_ 2 (d := d_is_golden) rfl
  have g_is_golden := He.glo_ok X G (c.fact 2 (f := .glo "is_golden") rfl)
  obtain ⟨fd_law_pot, D_law_pot⟩ := c.def_ 3 (d := d_law_pot) rfl
  have g_law_pot := He.glo_ok X G (c.fact 3 (f := .glo "_law_pot") rfl)
  obtain ⟨fd_law_take, D_law_take⟩ := c.def_ 4 (d := d_law_take) rfl
  have g_law_take := He.glo_ok X G (c.fact 4 (f := .glo "_law_take") rfl)
  obtain ⟨fd_law_cells, D_law_cells⟩ := c.def_ 5 (d := d_law_cells) rfl
  have g_law_cells := He.glo_ok X G (c.fact 5 (f := .glo "_law_cells") rfl)
  obtain ⟨fd_law_there, D_law_there⟩ := c.def_ 6 (d := d_law_there) rfl
  have g_law_there := He.glo_ok X G (c.fact 6 (f := .glo "_law_there") rfl)
  obtain ⟨fd_law_euclid, D_law_euclid⟩ := c.def_ 7 (d := d_law_euclid) rfl
  have g_law_euclid := He.glo_ok X G (c.fact 7 (f := .glo "_law_euclid") rfl)
  obtain ⟨fd_is_between, D_is_between⟩ := c.def_ 8 (d := d_is_between) rfl
  have g_is_between := He.glo_ok X G (c.fact 8 (f := .glo "is_between") rfl)
  obtain ⟨fd_pair_by, D_pair_by⟩ := c.def_ 9 (d := d_pair_by) rfl
  have g_pair_by := He.glo_ok X G (c.fact 9 (f := .glo "pair_by") rfl)
  obtain ⟨fd_is_euclid_won, D_is_euclid_won⟩ := c.def_ 10 (d := d_is_euclid_won) rfl
  have g_is_euclid_won := He.glo_ok X G (c.fact 10 (f := .glo "is_euclid_won") rfl)
  obtain ⟨fd_law_table, D_law_table⟩ := c.def_ 11 (d := d_law_table) rfl
  have g_law_table := He.glo_ok X G (c.fact 11 (f := .glo "_law_table") rfl)
  obtain ⟨fd_wythoff, D_wythoff⟩ := c.def_ 12 (d := d_wythoff) rfl
  have g_wythoff := He.glo_ok X G (c.fact 12 (f := .glo "wythoff") rfl)
  obtain ⟨fd_mate_of, D_mate_of⟩ := c.def_ 13 (d := d_mate_of) rfl
  have g_mate_of := He.glo_ok X G (c.fact 13 (f := .glo "mate_of") rfl)
  obtain ⟨fd_check_two, D_check_two⟩ := c.def_ 14 (d := d_check_two) rfl
  have g_check_two := He.glo_ok X G (c.fact 14 (f := .glo "check_two") rfl)
  obtain ⟨fd_is_pair, D_is_pair⟩ := c.def_ 15 (d := d_is_pair) rfl
  have g_is_pair := He.glo_ok X G (c.fact 15 (f := .glo "is_pair") rfl)
  obtain ⟨fd_two_win, D_two_win⟩ := c.def_ 16 (d := d_two_win) rfl
  have g_two_win := He.glo_ok X G (c.fact 16 (f := .glo "two_win") rfl)
  obtain ⟨fd_two_good, D_two_good⟩ := c.def_ 17 (d := d_two_good) rfl
  have g_two_good := He.glo_ok X G (c.fact 17 (f := .glo "two_good") rfl)
  obtain ⟨fd_euclid_wins, D_euclid_wins⟩ := c.def_ 18 (d := d_euclid_wins) rfl
  have g_euclid_wins := He.glo_ok X G (c.fact 18 (f := .glo "euclid_wins") rfl)
  obtain ⟨fd_euclid_good, D_euclid_good⟩ := c.def_ 19 (d := d_euclid_good) rfl
  have g_euclid_good := He.glo_ok X G (c.fact 19 (f := .glo "euclid_good") rfl)
  obtain ⟨fd_law_are_pairs_right, D_law_are_pairs_right⟩ := c.def_ 20 (d := d_law_are_pairs_right) rfl
  have g_law_are_pairs_right := He.glo_ok X G (c.fact 20 (f := .glo "_law_are_pairs_right") rfl)
  obtain ⟨fd_law_are_great_right, D_law_are_great_right⟩ := c.def_ 21 (d := d_law_are_great_right) rfl
  have g_law_are_great_right := He.glo_ok X G (c.fact 21 (f := .glo "_law_are_great_right") rfl)
  obtain ⟨fd_law_are_small_right, D_law_are_small_right⟩ := c.def_ 22 (d := d_law_are_small_right) rfl
  have g_law_are_small_right := He.glo_ok X G (c.fact 22 (f := .glo "_law_are_small_right") rfl)
  obtain ⟨fd_law, D_law⟩ := c.def_ 23 (d := d_law) rfl
  have g_law := He.glo_ok X G (c.fact 23 (f := .glo "law") rfl)
  have T : Tx K mg := ⟨He.free_ok X G (c.fact 24 (f := .free "abs") rfl), He.free_ok X G (c.fact 25 (f := .free "all") rfl), He.free_ok X G (c.fact 26 (f := .free "any") rfl), He.free_ok X G (c.fact 27 (f := .free "bool") rfl), He.free_ok X G (c.fact 28 (f := .free "int") rfl), He.free_ok X G (c.fact 29 (f := .free "isinstance") rfl), He.free_ok X G (c.fact 30 (f := .free "len") rfl), He.free_ok X G (c.fact 31 (f := .free "list") rfl), He.free_ok X G (c.fact 32 (f := .free "max") rfl), He.free_ok X G (c.fact 33 (f := .free "min") rfl), He.free_ok X G (c.fact 34 (f := .free "range") rfl), He.free_ok X G (c.fact 35 (f := .free "repr") rfl), He.free_ok X G (c.fact 36 (f := .free "set") rfl), He.free_ok X G (c.fact 37 (f := .free "sorted") rfl), He.free_ok X G (c.fact 38 (f := .free "sum") rfl), He.free_ok X G (c.fact 39 (f := .free "tuple") rfl), Glb.int (He.int_ok X G (c.fact 40 (f := .int "MOST_HEAP" 1000000000000) rfl)), Glb.int (He.int_ok X G (c.fact 41 (f := .int "MOST_PAIR" 1000000000) rfl))⟩
  have e : f = He.ga K "law" := by
    have := hfa.symm.trans g_law
    simpa using this
  subst e
  refine ⟨fd_law, fun s v => FunD.bindsA (ps := ["script"]) D_law (fun _ _ _ _ _ _ us hl => match us, hl with | [_], _ => rfl) s [v] rfl, fun base => ?_⟩
  have G_is_integer := ok_is_integer (P := P) (w := w) (mg := mg) (base := base) D_is_integer T
  have C_is_integer := cal_is_integer D_is_integer g_is_integer G_is_integer
  have G_root_of := ok_root_of (P := P) (w := w) (mg := mg) (base := base) D_root_of
  have C_root_of := cal_root_of D_root_of g_root_of G_root_of
  have G_is_golden := ok_is_golden (P := P) (w := w) (mg := mg) (base := base) D_is_golden
  have C_is_golden := cal_is_golden D_is_golden g_is_golden G_is_golden
  have G_law_pot := ok_law_pot (P := P) (w := w) (mg := mg) (base := base) D_law_pot T
  have C_law_pot := cal_law_pot D_law_pot g_law_pot G_law_pot
  have G_law_take := ok_law_take (P := P) (w := w) (mg := mg) (base := base) D_law_take T
  have C_law_take := cal_law_take D_law_take g_law_take G_law_take
  have G_law_cells := ok_law_cells (P := P) (w := w) (mg := mg) (base := base) D_law_cells T
  have C_law_cells := cal_law_cells D_law_cells g_law_cells G_law_cells
  have G_law_there := ok_law_there (P := P) (w := w) (mg := mg) (base := base) D_law_there T
  have C_law_there := cal_law_there D_law_there g_law_there G_law_there
  have G_law_euclid := ok_law_euclid (P := P) (w := w) (mg := mg) (base := base) D_law_euclid g_law_euclid T 64
  have C_law_euclid := cal_law_euclid D_law_euclid g_law_euclid G_law_euclid
  have G_is_between := ok_is_between (P := P) (w := w) (mg := mg) (base := base) D_is_between C_is_integer
  have C_is_between := cal_is_between D_is_between g_is_between G_is_between
  have G_pair_by := ok_pair_by (P := P) (w := w) (mg := mg) (base := base) D_pair_by C_root_of
  have C_pair_by := cal_pair_by D_pair_by g_pair_by G_pair_by
  have G_is_euclid_won := ok_is_euclid_won (P := P) (w := w) (mg := mg) (base := base) D_is_euclid_won T C_is_golden
  have C_is_euclid_won := cal_is_euclid_won D_is_euclid_won g_is_euclid_won G_is_euclid_won
  have G_law_table := ok_law_table (P := P) (w := w) (mg := mg) (base := base) D_law_table T C_law_there
  have C_law_table := cal_law_table D_law_table g_law_table G_law_table
  have G_wythoff := ok_wythoff (P := P) (w := w) (mg := mg) (base := base) D_wythoff T C_is_between C_pair_by
  have C_wythoff := cal_wythoff D_wythoff g_wythoff G_wythoff
  have KC4 := kw_4 D_wythoff g_wythoff G_wythoff
  have G_mate_of := ok_mate_of (P := P) (w := w) (mg := mg) (base := base) D_mate_of T C_root_of C_pair_by
  have C_mate_of := cal_mate_of D_mate_of g_mate_of G_mate_of
  have G_check_two := ok_check_two (P := P) (w := w) (mg := mg) (base := base) D_check_two T C_is_between
  have C_check_two := cal_check_two D_check_two g_check_two G_check_two
  have G_is_pair := ok_is_pair (P := P) (w := w) (mg := mg) (base := base) D_is_pair T C_pair_by
  have C_is_pair := cal_is_pair D_is_pair g_is_pair G_is_pair
  have G_two_win := ok_two_win (P := P) (w := w) (mg := mg) (base := base) D_two_win C_check_two C_is_pair
  have C_two_win := cal_two_win D_two_win g_two_win G_two_win
  have KC0 := kw_0 D_two_win g_two_win G_two_win
  have G_two_good := ok_two_good (P := P) (w := w) (mg := mg) (base := base) D_two_good T C_check_two C_is_pair C_mate_of C_pair_by
  have C_two_good := cal_two_good D_two_good g_two_good G_two_good
  have KC1 := kw_1 D_two_good g_two_good G_two_good
  have G_euclid_wins := ok_euclid_wins (P := P) (w := w) (mg := mg) (base := base) D_euclid_wins C_check_two C_is_euclid_won
  have C_euclid_wins := cal_euclid_wins D_euclid_wins g_euclid_wins G_euclid_wins
  have KC2 := kw_2 D_euclid_wins g_euclid_wins G_euclid_wins
  have G_euclid_good := ok_euclid_good (P := P) (w := w) (mg := mg) (base := base) D_euclid_good T C_check_two C_is_euclid_won
  have C_euclid_good := cal_euclid_good D_euclid_good g_euclid_good G_euclid_good
  have KC3 := kw_3 D_euclid_good g_euclid_good G_euclid_good
  have G_law_are_pairs_right := ok_law_are_pairs_right (P := P) (w := w) (mg := mg) (base := base) D_law_are_pairs_right T KC4
  have C_law_are_pairs_right := cal_law_are_pairs_right D_law_are_pairs_right g_law_are_pairs_right G_law_are_pairs_right
  have G_law_are_great_right := ok_law_are_great_right (P := P) (w := w) (mg := mg) (base := base) D_law_are_great_right T C_law_take C_wythoff C_two_win C_two_good C_euclid_wins C_euclid_good
  have C_law_are_great_right := cal_law_are_great_right D_law_are_great_right g_law_are_great_right G_law_are_great_right
  have G_law_are_small_right := ok_law_are_small_right (P := P) (w := w) (mg := mg) (base := base) D_law_are_small_right T C_law_take C_law_table C_law_there C_law_euclid KC0 KC1 KC2 KC3
  have C_law_are_small_right := cal_law_are_small_right D_law_are_small_right g_law_are_small_right G_law_are_small_right
  exact ok_law (P := P) (w := w) (mg := mg) (base := base) D_law T C_law_cells C_law_pot C_law_are_small_right C_law_are_great_right C_law_are_pairs_right
theorem pot_ok : FnPot F_law_pot := potA_ok (k2 := 19583) (k3 := 6149) (k4 := 99869) (k5 := 18299) (k6 := 7227) (by decide) (by decide) (by decide)
theorem take_ok : FnTake F_law_take := takeA_ok (k1 := 111221) (k2 := 3861) (k3 := 22063) (k4 := 2391) (k5 := 5749) (by decide) (by decide) (by decide) (by decide) (by decide)
theorem cells_ok : FnCells F_law_cells := DL.cells_ok
abbrev hk : PySem.W.Hook := He.hookD fns.length fas fns
def ob (s : PySem.W.SharedT) : He.AlD := He.obsDG fns.length fas fns (HandSHeadRun.getT s)
theorem ob_eq (s : PySem.W.SharedT) : ob s = hk.obs s.abs := He.obsDG_eq (HandSHeadRun.getT_eq s)
end K74

set_option Elab.async false
set_option linter.all false
set_option maxRecDepth 100000
set_option autoImplicit false
noncomputable section
/-! law k74, the plain part: golden numbers in whole numbers. -/
namespace K74
def gz (a n : Int) : Int := a * a - a * n - n * n
theorem sq_le {x y : Int} (hx : 0 ≤ x) (h : x ≤ y) : x * x ≤ y * y := Int.mul_le_mul h h hx (by omega)
theorem sq_lt {x y : Int} (hx : 0 ≤ x) (h : x < y) : x * x < y * y := by
  have h1 : x * x ≤ x * y := Int.mul_le_mul_of_nonneg_left (by omega) hx
  have h2 : x * y < y * y := Int.mul_lt_mul_of_pos_right h (by omega)
  omega
structure IsA (n a : Int) : Prop where
  le : n ≤ a
  low : gz a n ≤ 0
  up : 0 < gz (a + 1) n
theorem pair_gz {n s a : Int} (hn : 0 ≤ n) (hs : 0 ≤ s) (h1 : s * s ≤ 5 * (n * n)) (h2 : 5 * (n * n) < (s + 1) * (s + 1)) (ha : a = (n + s) / 2) : IsA n a := by
  have hns : n ≤ s := by
    by_cases h : n ≤ s
    · exact h
    · have := sq_le (x := s + 1) (y := n) (by omega) (by omega)
      have := Int.mul_nonneg hn hn
      omega
  have e1 : 4 * gz a n = (2 * a - n) * (2 * a - n) - 5 * (n * n) := by unfold gz; grind
  have e2 : 4 * gz (a + 1) n = (2 * a + 2 - n) * (2 * a + 2 - n) - 5 * (n * n) := by unfold gz; grind
  refine ⟨by omega, ?_, ?_⟩
  · have : 2 * a - n = s ∨ (2 * a - n = s - 1 ∧ 1 ≤ s) := by omega
    rcases this with h | ⟨h, h3⟩
    · rw [h] at e1; omega
    · rw [h] at e1
      have := sq_le (x := s - 1) (y := s) (by omega) (by omega)
      omega
  · have := sq_le (x := s + 1) (y := 2 * a + 2 - n) (by omega) (by omega)
    omega
theorem gz_mono {a b n : Int} (hn : 0 ≤ n) (h0 : n ≤ a) (h : a ≤ b) : gz a n ≤ gz b n := by
  have e1 : gz a n = a * (a - n) - n * n := by unfold gz; grind
  have e2 : gz b n = b * (b - n) - n * n := by unfold gz; grind
  have := Int.mul_le_mul (a := a) (b := a - n) (c := b) (d := b - n) h (by omega) (by omega) (by omega)
  omega
theorem gz_anti {a n m : Int} (ha : 0 ≤ a) (hn : 0 ≤ n) (h : n ≤ m) : gz a m ≤ gz a n := by
  have e1 : gz a n = a * a - n * (a + n) := by unfold gz; grind
  have e2 : gz a m = a * a - m * (a + m) := by unfold gz; grind
  have := Int.mul_le_mul (a := n) (b := a + n) (c := m) (d := a + m) h (by omega) (by omega) (by omega)
  omega
theorem IsA.uniq {n a b : Int} (hn : 0 ≤ n) (h : IsA n a) (g : IsA n b) : a = b := by
  have h1 := h.le; have h2 := g.le
  by_cases c : a < b
  · have := gz_mono (a := a + 1) (b := b) hn (by omega) (by omega)
    have := h.up; have := g.low; omega
  · by_cases d : b < a
    · have := gz_mono (a := b + 1) (b := a) hn (by omega) (by omega)
      have := g.up; have := h.low; omega
    · omega
theorem IsA.le2 {n a : Int} (hn : 0 ≤ n) (h : IsA n a) : a ≤ 2 * n := by
  by_cases c : a ≤ 2 * n
  · exact c
  · have h1 := h.low
    have := gz_mono (a := 2 * n + 1) (b := a) hn (by omega) (by omega)
    have e : gz (2 * n + 1) n = n * n + 3 * n + 1 := by unfold gz; grind
    have := Int.mul_nonneg hn hn
    omega
theorem IsA.mono {n m a b : Int} (hn : 0 ≤ n) (h : IsA n a) (g : IsA m b) (hm : n < m) : a < b := by
  by_cases c : a < b
  · exact c
  · have h1 := h.le; have h2 := g.le; have h3 := g.le2 (by omega); have h4 := h.le2 hn
    by_cases m1 : m = 1
    · omega
    · have e : gz b (m - 1) - gz (b + 1) m = 3 * m - b - 2 := by unfold gz; grind
      have g1 := gz_mono (a := b) (b := a) (n := m - 1) (by omega) (by omega) (by omega)
      have g2 := gz_anti (a := a) (n := n) (m := m - 1) (by omega) hn (by omega)
      have := h.low; have := g.up
      omega
theorem gz_ne : ∀ (k : Nat) (x y : Int), 0 < y → 0 ≤ x → y ≤ k → gz x y ≠ 0 := by
  intro k
  induction k with
  | zero => intro x y h1 h2 h3; omega
  | succ k ih =>
    intro x y h1 h2 h3 h
    have hxy : y < x := by
      by_cases c : y < x
      · exact c
      · have := gz_anti (a := x) (n := x) (m := y) h2 h2 (by omega)
        have e : gz x x = - (x * x) := by unfold gz; grind
        have := Int.mul_nonneg h2 h2
        have e2 : gz x y = x * (x - y) - y * y := by unfold gz; grind
        have h5 := Int.mul_le_mul_of_nonneg_left (a := x - y) (b := 0) (c := x) (by omega) h2
        have := Int.mul_pos h1 h1
        omega
    have e : gz y (x - y) = - gz x y := by unfold gz; grind
    have hz : x - y < y := by
      by_cases c : x - y < y
      · exact c
      · have := gz_mono (a := 2 * y) (b := x) (n := y) (by omega) (by omega) (by omega)
        have e2 : gz (2 * y) y = y * y := by unfold gz; grind
        have := Int.mul_pos h1 h1
        omega
    exact ih y (x - y) (by omega) (by omega) (by omega) (by omega)
theorem gz_nz {x y : Int} (hy : 0 < y) (hx : 0 ≤ x) : gz x y ≠ 0 := gz_ne y.toNat x y hy hx (by omega)
/-- near a number's golden part -/
theorem near_gz {s r N : Int} (hs : 1 ≤ s) (hr : 0 ≤ r) (h1 : r * r ≤ 5 * (s * s)) (h2 : 5 * (s * s) < (r + 1) * (r + 1)) (hN : N = (r - s) / 2) : 0 ≤ gz s N ∧ gz s (N + 1) < 0 ∧ 0 ≤ N ∧ N < s := by
  have hsr : s ≤ r := by
    by_cases h : s ≤ r
    · exact h
    · have := sq_le (x := r + 1) (y := s) (by omega) (by omega)
      have := Int.mul_nonneg (a := s) (b := s) (by omega) (by omega)
      omega
  have e1 : 4 * gz s N = 5 * (s * s) - (2 * N + s) * (2 * N + s) := by unfold gz; grind
  have e2 : 4 * gz s (N + 1) = 5 * (s * s) - (2 * N + 2 + s) * (2 * N + 2 + s) := by unfold gz; grind
  have a1 := sq_le (x := 2 * N + s) (y := r) (by omega) (by omega)
  have a2 := sq_le (x := r + 1) (y := 2 * N + 2 + s) (by omega) (by omega)
  refine ⟨by omega, by omega, by omega, ?_⟩
  by_cases c : N < s
  · exact c
  · have := gz_anti (a := s) (n := s) (m := N) (by omega) (by omega) (by omega)
    have e : gz s s = - (s * s) := by unfold gz; grind
    have := Int.mul_pos (a := s) (b := s) (by omega) (by omega)
    omega
theorem mate_case {s N : Int} (hs : 1 ≤ s) (h1 : 0 ≤ gz s N) (h2 : gz s (N + 1) < 0) (h3 : 0 ≤ N) (h4 : N < s) : IsA (N + 1) s ∨ IsA (s - N) N := by
  by_cases c : 0 < gz (s + 1) (N + 1)
  · exact .inl ⟨by omega, by omega, c⟩
  · have hz := gz_nz (x := s + 1) (y := N + 1) (by omega) (by omega)
    have e1 : gz N (s - N) = - gz s N := by unfold gz; grind
    have e2 : gz (N + 1) (s - N) = - gz (s + 1) (N + 1) := by unfold gz; grind
    refine .inr ⟨?_, by omega, by omega⟩
    by_cases d : s - N ≤ N
    · exact d
    · have := gz_anti (a := N + 1) (n := N + 1) (m := s - N) (by omega) (by omega) (by omega)
      have e : gz (N + 1) (N + 1) = - ((N + 1) * (N + 1)) := by unfold gz; grind
      have := Int.mul_nonneg (a := N + 1) (b := N + 1) (by omega) (by omega)
      omega
/-! ### Euclid's pairs -/
/-- who moves first wins -/
def won (x y : Int) : Prop := 0 < min x y ∧ (min x y = max x y ∨ 0 < gz (max x y) (min x y))
theorem won_of {l h : Int} (h0 : 0 < l) (hl : l ≤ h) : won l h ↔ l = h ∨ 0 < gz h l := by
  unfold won
  rw [show min l h = l by omega, show max l h = h by omega]
  constructor
  · exact fun z => z.2
  · exact fun z => ⟨h0, z⟩
theorem won_comm (x y : Int) : won x y ↔ won y x := by
  unfold won
  rw [Int.min_comm, Int.max_comm]
theorem won_zero {l : Int} (h : 0 ≤ l) : ¬ won l 0 := by
  unfold won
  omega
theorem eu_yes {l h m r : Int} (h0 : 0 < l) (hl : l ≤ h) (hm : h = m * l + r) (hr : 0 ≤ r) (hr2 : r < l) (hw : won l h) : ¬ won l r ∨ (0 < m - 1 ∧ ¬ won l (r + l)) := by
  have hm1 : 1 ≤ m := by
    by_cases c : 1 ≤ m
    · exact c
    · have := Int.mul_le_mul_of_nonneg_right (a := m) (b := 0) (c := l) (by omega) (by omega)
      omega
  by_cases c : won l r
  · have hr0 : 0 < r := by
      by_cases d : 0 < r
      · exact d
      · exact absurd (show won l 0 by rw [show (0 : Int) = r by omega]; exact c) (won_zero (by omega))
    have c' := (won_of hr0 (by omega)).mp ((won_comm l r).mp c)
    have c2 : 0 < gz l r := by omega
    have e : gz (r + l) l = - gz l r := by unfold gz; grind
    refine .inr ⟨?_, fun z => ?_⟩
    · by_cases d : 0 < m - 1
      · exact d
      · have : m = 1 := by omega
        subst this
        have hh : h = r + l := by omega
        subst hh
        have := (won_of h0 hl).mp hw
        omega
    · have := (won_of h0 (by omega)).mp z
      omega
  · exact .inl c
theorem eu_no {l h m r : Int} (h0 : 0 < l) (hl : l ≤ h) (hm : h = m * l + r) (hr : 0 ≤ r) (hr2 : r < l) (hw : ¬ won l h) : m = 1 ∧ won l r := by
  have hw' := mt (won_of h0 hl).mpr hw
  have h1 : ¬ 0 < gz h l := fun z => hw' (.inr z)
  have h2 : h ≠ l := fun z => hw' (.inl z.symm)
  have hh : h < 2 * l := by
    by_cases c : h < 2 * l
    · exact c
    · have := gz_mono (a := 2 * l) (b := h) (n := l) (by omega) (by omega) (by omega)
      have e2 : gz (2 * l) l = l * l := by unfold gz; grind
      have := Int.mul_pos h0 h0
      omega
  have hm1 : m = 1 := by
    by_cases c : 1 ≤ m
    · by_cases d : 2 ≤ m
      · have := Int.mul_le_mul_of_nonneg_right (a := 2) (b := m) (c := l) d (by omega)
        omega
      · omega
    · have := Int.mul_le_mul_of_nonneg_right (a := m) (b := 0) (c := l) (by omega) (by omega)
      omega
  subst hm1
  have hr' : h = r + l := by omega
  subst hr'
  refine ⟨rfl, ?_⟩
  have hr0 : 0 < r := by omega
  have e : gz (r + l) l = - gz l r := by unfold gz; grind
  have := gz_nz (x := l) (y := r) hr0 (by omega)
  exact (won_comm l r).mpr ((won_of hr0 (by omega)).mpr (.inr (by omega)))
theorem won_law {s g : Int} : 0 < gz g s ↔ 5 * (s * s) < (2 * g - s) * (2 * g - s) := by
  have e1 : 4 * gz g s = (2 * g - s) * (2 * g - s) - 5 * (s * s) := by unfold gz; grind
  omega
end K74

set_option Elab.async false
set_option linter.all false
set_option maxRecDepth 100000
set_option autoImplicit false
namespace K74
open PySem PySem.Spec PyProof.Rows L2 DL
def P_is_integer (a0 : Int) : Option Bool := (pAnd (Option.map (fun _ => true) (some a0)) (pNot (Option.map (fun _ => false) (some a0))))
theorem T_is_integer : FnT1 F_is_integer eI eB P_is_integer := fun S a0 r hr => fn_st (n := 1) (p := P_is_integer a0) [eI a0] (StF.ret (Ev.and (Ev.isi (T := "int") (b := true) (fun _ _ => rfl) (Ev.var 0)) (Ev.not (Ev.isi (T := "bool") (b := false) (fun _ _ => rfl) (Ev.var 0))))) S r hr
def P_is_between (a0 : Int) (a1 : Int) (a2 : Int) : Option Bool := (pAnd (pB1 P_is_integer (some a0)) ((some a1).bind fun a => (some a0).bind fun b => ((fun a b => some (decide (a ≤ b))) a b).bind fun k => if k = true then (some a2).bind fun c => (fun a b => some (decide (a ≤ b))) b c else some false))
theorem T_is_between : FnT3 F_is_between eI eI eI eB P_is_between := fun S a0 a1 a2 r hr => fn_st (n := 3) (p := P_is_between a0 a1 a2) [eI a0, eI a1, eI a2] (StF.ret (Ev.and (Ev.f1 T_is_integer (Ev.var 0)) (Ev.chain tLe tLe (Ev.var 1) (Ev.var 0) (Ev.var 2)))) S r hr
def P_root_of (a0 : Int) : Option Int := ((some (1 : Int)).bind fun v1 => ((pWhile (fun (s2 : Int) => (pB2 (fun a b => some (decide (a ≤ b))) (pB2 pMul (some s2) (some s2)) (some a0))) (fun (s2 : Int) => (Option.map (fun v3 => v3) (pB2 pMul (some (2 : Int)) (some s2)))) 80 v1).bind fun v4 => ((some (0 : Int)).bind fun v5 => ((pWhile (fun (s6 : Int × Int) => (pB2 (fun a b => some (decide (b < a))) (pB2 (fun a b => some (a - b)) (some s6.2) (some s6.1)) (some (1 : Int)))) (fun (s6 : Int × Int) => ((pB2 pDiv (pB2 (fun a b => some (a + b)) (some s6.1) (some s6.2)) (some (2 : Int))).bind fun v7 => (Option.map (fun v8 => (v8.1, v8.2)) (pIf (pB2 (fun a b => some (decide (a ≤ b))) (pB2 pMul (some v7) (some v7)) (some a0)) (pB2 (fun a b => some (a, b)) (some v7) (some s6.2)) (pB2 (fun a b => some (a, b)) (some s6.1) (some v7)))))) 80 (v5, v4)).bind fun v9 => (some v9.1)))))
theorem T_root_of : FnT1 F_root_of eI eI P_root_of := fun S a0 r hr => fn_st (n := 4) (p := P_root_of a0) [eI a0] (StF.seqN (StN.asg 1 (Ev.s (Ev.c (e := eI) (v := 1)))) (fun v1 => (StF.seqN (StN.while 80 (fun (s2 : Int) => [.w (.d (eI a0)), .w (.d (eI s2)), .j, .j]) v1 (Le.e (Le.e (Le.j (Le.j Le.nil)))) (fun s2 => (Te.b (Ev.bin tLe (Ev.bin tMul (Ev.var 1) (Ev.var 1)) (Ev.var 0)))) (fun s2 => (StN.to (StN.asg 1 (Ev.s (Ev.bin tMul (Ev.c (e := eI) (v := 2)) (Ev.var 1)))) (fun v3 => v3) (fun v3 => (Le.e (Le.e (Le.j (Le.j Le.nil)))))))) (fun v4 => (StF.seqN (StN.asg 2 (Ev.s (Ev.c (e := eI) (v := 0)))) (fun v5 => (StF.seqN (StN.while 80 (fun (s6 : Int × Int) => [.w (.d (eI a0)), .w (.d (eI s6.2)), .w (.d (eI s6.1)), .j]) (v5, v4) (Le.e (Le.e (Le.e (Le.j Le.nil)))) (fun s6 => (Te.b (Ev.bin tGt (Ev.bin tSub (Ev.var 1) (Ev.var 2)) (Ev.c (e := eI) (v := 1))))) (fun s6 => (StN.seq (StN.asg 3 (Ev.s (Ev.bin tDiv (Ev.bin tAdd (Ev.var 2) (Ev.var 1)) (Ev.c (e := eI) (v := 2))))) (fun v7 => (StN.to (StN.unp (Ev.ite (Te.b (Ev.bin tLe (Ev.bin tMul (Ev.var 3) (Ev.var 3)) (Ev.var 0))) (Ev.pair (Ev.var 3) (Ev.var 1)) (Ev.pair (Ev.var 2) (Ev.var 3))) (Tg.p2 2 1)) (fun v8 => (v8.1, v8.2)) (fun v8 => (Le.e (Le.e (Le.e (Le.j Le.nil)))))))))) (fun v9 => (StF.ret (Ev.var 2)))))))))) S r hr
def P_pair_by (a0 : Int) : Option (Int × Int) := ((pB2 pDiv (pB2 (fun a b => some (a + b)) (some a0) (pB1 P_root_of (pB2 pMul (pB2 pMul (some (5 : Int)) (some a0)) (some a0)))) (some (2 : Int))).bind fun v1 => (pB2 (fun a b => some (a, b)) (some v1) (pB2 (fun a b => some (a + b)) (some v1) (some a0))))
theorem T_pair_by : FnT1 F_pair_by eI (eP eI eI) P_pair_by := fun S a0 r hr => fn_st (n := 2) (p := P_pair_by a0) [eI a0] (StF.seqN (StN.asg 1 (Ev.s (Ev.bin tDiv (Ev.bin tAdd (Ev.var 0) (Ev.f1 T_root_of (Ev.bin tMul (Ev.bin tMul (Ev.c (e := eI) (v := 5)) (Ev.var 0)) (Ev.var 0)))) (Ev.c (e := eI) (v := 2))))) (fun v1 => (StF.ret (Ev.pair (Ev.var 1) (Ev.bin tAdd (Ev.var 1) (Ev.var 0)))))) S r hr
def P_wythoff (a0 : Int) : Option (Int × Int) := (pIf (pNot (pB3 P_is_between (some a0) (some (0 : Int)) (some (1000000000 : Int)))) (none : Option (Int × Int)) (pB1 P_pair_by (some a0)))
theorem T_wythoff : FnT1 F_wythoff eI (eP eI eI) P_wythoff := fun S a0 r hr => fn_st (n := 1) (p := P_wythoff a0) [eI a0] (StF.guard (Te.not (Te.b (Ev.f3 T_is_between (Ev.var 0) (Ev.c (e := eI) (v := 0)) (Ev.c (e := eI) (v := 1000000000))))) StF.raise (StF.ret (Ev.f1 T_pair_by (Ev.var 0)))) S r hr
def P_mate_of (a0 : Int) : Option Int := ((pB2 pDiv (pB2 (fun a b => some (a - b)) (pB1 P_root_of (pB2 pMul (pB2 pMul (some (5 : Int)) (some a0)) (some a0))) (some a0)) (some (2 : Int))).bind fun v1 => (pSeqF ((pB1 pFit (pB2 (fun x xs => some (x :: xs)) (some v1) (pB2 (fun x xs => some (x :: xs)) (pB2 (fun a b => some (a + b)) (some v1) (some (1 : Int))) (some ([] : List Int))))).bind fun xs => pForR (fun (s2 : Unit) (x3 : Int) => (pIf (pB2 (fun a b => some (decide (a = b))) (Option.map Prod.fst (pB1 P_pair_by (some x3))) (some a0)) (Option.map Sum.inr (Option.map Prod.snd (pB1 P_pair_by (some x3)))) (Option.map Sum.inl (Option.map (fun _ => ()) (some ()))))) xs ()) (fun v4 => (((pB2 pRange (pB2 (fun a b => some (maxI a b)) (some (0 : Int)) (pB2 (fun a b => some (a - b)) (pB2 (fun a b => some (a - b)) (some a0) (some v1)) (some (2 : Int)))) (pB2 (fun a b => some (a + b)) (pB2 (fun a b => some (a - b)) (some a0) (some v1)) (some (2 : Int)))).bind fun xs => (pFit xs).bind fun xs => pComp (fun (x5 : Int) => (pB2 (fun a b => some (decide (a = b))) (Option.map Prod.snd (pB1 P_pair_by (some x5))) (some a0))) (fun (x5 : Int) => (some x5)) xs).bind fun v6 => (Option.map Prod.fst (pB1 P_pair_by (pB2 pIx (some v6) (some (0 : Int)))))))))
theorem T_mate_of : FnT1 F_mate_of eI eI P_mate_of := fun S a0 r hr => fn_st (n := 4) (p := P_mate_of a0) [eI a0] (StF.seqN (StN.asg 1 (Ev.s (Ev.bin tDiv (Ev.bin tSub (Ev.f1 T_root_of (Ev.bin tMul (Ev.bin tMul (Ev.c (e := eI) (v := 5)) (Ev.var 0)) (Ev.var 0))) (Ev.var 0)) (Ev.c (e := eI) (v := 2))))) (fun v1 => (StF.seqR (StR.for (fun (s2 : Unit) => [.w (.d (eI a0)), .w (.d (eI v1)), .j, .j]) () (It.t (Ev.vtup (EvL.cons (Ev.var 1) (EvL.cons (Ev.bin tAdd (Ev.var 1) (Ev.c (e := eI) (v := 1))) (EvL.nil (e := eI)))))) (Le.e (Le.e (Le.j (Le.j Le.nil)))) (Tg.n 2) (fun s2 x3 => (StR.ite (Te.b (Ev.bin (tEq EqE.int) (Ev.fst (Ev.f1 T_pair_by (Ev.var 2))) (Ev.var 0))) (StR.ofF (StF.ret (Ev.snd (Ev.f1 T_pair_by (Ev.var 2))))) (StR.ofN (StN.to StN.skip (fun _ => ()) (fun _ => (Le.e (Le.e (Le.j (Le.j Le.nil)))))))))) (fun v4 => (StF.seqN (StN.asg 3 (Ev.s (Ev.comp (It.r2 (Ev.c2 tMax (Ev.c (e := eI) (v := 0)) (Ev.bin tSub (Ev.bin tSub (Ev.var 0) (Ev.var 1)) (Ev.c (e := eI) (v := 2)))) (Ev.bin tAdd (Ev.bin tSub (Ev.var 0) (Ev.var 1)) (Ev.c (e := eI) (v := 2)))) (Tg.n 2) (fun x5 => (Te.b (Ev.bin (tEq EqE.int) (Ev.snd (Ev.f1 T_pair_by (Ev.var 2))) (Ev.var 0)))) (fun x5 => (Ev.var 2))))) (fun v6 => (StF.ret (Ev.fst (Ev.f1 T_pair_by (Ev.bin tIxL (Ev.var 3) (Ev.c (e := eI) (v := 0)))))))))))) S r hr
def P_check_two (a0 : Int) (a1 : Int) (a2 : Int) : Option Unit := (Option.map (fun _ => ()) (pIf (pOr (pNot (pB3 P_is_between (some a0) (some a2) (some (1000000000000 : Int)))) (pNot (pB3 P_is_between (some a1) (some a2) (some (1000000000000 : Int))))) none (some ())))
theorem T_check_two : FnT3 F_check_two eI eI eI eN P_check_two := fun S a0 a1 a2 r hr => fn_stN (n := 3) (p := (pIf (pOr (pNot (pB3 P_is_between (some a0) (some a2) (some (1000000000000 : Int)))) (pNot (pB3 P_is_between (some a1) (some a2) (some (1000000000000 : Int))))) none (some ()))) [eI a0, eI a1, eI a2] (StN.ite (L1 := fun (_ : Unit) => [.w (.d (eI a0)), .w (.d (eI a1)), .w (.d (eI a2))]) (Te.or (Te.not (Te.b (Ev.f3 T_is_between (Ev.var 0) (Ev.var 2) (Ev.c (e := eI) (v := 1000000000000))))) (Te.not (Te.b (Ev.f3 T_is_between (Ev.var 1) (Ev.var 2) (Ev.c (e := eI) (v := 1000000000000)))))) StN.raise StN.skip) S r hr
def P_is_pair (a0 : Int) (a1 : Int) : Option Bool := ((pB2 (fun a b => some (a, b)) (pB2 (fun a b => some (minI a b)) (some a0) (some a1)) (pB2 (fun a b => some (maxI a b)) (some a0) (some a1))).bind fun v1 => (pB2 (fun a b => some (decide (a = b))) (pB1 P_pair_by (pB2 (fun a b => some (a - b)) (some v1.2) (some v1.1))) (pB2 (fun a b => some (a, b)) (some v1.1) (some v1.2))))
theorem T_is_pair : FnT2 F_is_pair eI eI eB P_is_pair := fun S a0 a1 r hr => fn_st (n := 4) (p := P_is_pair a0 a1) [eI a0, eI a1] (StF.seqN (StN.par2 2 3 (Ev.s (Ev.c2 tMin (Ev.var 0) (Ev.var 1))) (Ev.s (Ev.c2 tMax (Ev.var 0) (Ev.var 1)))) (fun v1 => (StF.ret (Ev.bin (tEq (EqE.p EqE.int EqE.int)) (Ev.f1 T_pair_by (Ev.bin tSub (Ev.var 3) (Ev.var 2))) (Ev.pair (Ev.var 2) (Ev.var 3)))))) S r hr
def P_two_win (a0 : Int) (a1 : Int) : Option Bool := ((pB3 P_check_two (some a0) (some a1) (some (0 : Int))).bind fun v1 => (pNot (pB2 P_is_pair (some a0) (some a1))))
theorem T_two_win : FnT2 F_two_win eI eI eB P_two_win := fun S a0 a1 r hr => fn_st (n := 2) (p := P_two_win a0 a1) [eI a0, eI a1] (StF.seqN (StN.expr (Ev.f3 T_check_two (Ev.var 0) (Ev.var 1) (Ev.c (e := eI) (v := 0)))) (fun v1 => (StF.ret (Ev.not (Ev.f2 T_is_pair (Ev.var 0) (Ev.var 1)))))) S r hr
def P_two_good (a0 : Int) (a1 : Int) : Option (List (Int × Int)) := ((pB3 P_check_two (some a0) (some a1) (some (0 : Int))).bind fun v1 => (pIf (pB2 P_is_pair (some a0) (some a1)) (pB1 pFit (some ([] : List (Int × Int)))) ((pB1 pFit (pB2 (fun x xs => some (x :: xs)) (pB2 (fun a b => some (a, b)) (some a0) (pB1 P_mate_of (some a0))) (pB2 (fun x xs => some (x :: xs)) (pB2 (fun a b => some (a, b)) (pB1 P_mate_of (some a1)) (some a1)) (some ([] : List (Int × Int)))))).bind fun v2 => ((pB1 P_pair_by (pB1 (fun a => some (absI a)) (pB2 (fun a b => some (a - b)) (some a0) (some a1)))).bind fun v3 => (((pIf (pB2 (fun a b => some (decide (a < b))) (some a0) (some a1)) (pB2 (fun a b => some (a, b)) (some v3.1) (some v3.2)) (pB2 (fun a b => some (a, b)) (some v3.2) (some v3.1))).bind fun a => pFit (v2 ++ [a])).bind fun v4 => ((some ()).bind fun v5 => (((some v4).bind fun xs => (pFit xs).bind fun xs => pComp (fun (x6 : (Int × Int)) => (pAnd (pB2 (fun a b => some (decide (a ≤ b))) (Option.map Prod.fst (some x6)) (some a0)) (pB2 (fun a b => some (decide (a ≤ b))) (Option.map Prod.snd (some x6)) (some a1)))) (fun (x6 : (Int × Int)) => (some x6)) xs).bind fun v7 => (pB1 (fun xs => some xs) (pB1 pSetP (some v7))))))))))
theorem T_two_good : FnT2 F_two_good eI eI (eV (eP eI eI)) P_two_good := fun S a0 a1 r hr => fn_st (n := 7) (p := P_two_good a0 a1) [eI a0, eI a1] (StF.seqN (StN.expr (Ev.f3 T_check_two (Ev.var 0) (Ev.var 1) (Ev.c (e := eI) (v := 0)))) (fun v1 => (StF.guard (Te.b (Ev.f2 T_is_pair (Ev.var 0) (Ev.var 1))) (StF.ret (Ev.vtup (EvL.nil (e := (eP eI eI))))) (StF.seqN (StN.asg 2 (EvS.new (EvL.cons (Ev.pair (Ev.var 0) (Ev.f1 T_mate_of (Ev.var 0))) (EvL.cons (Ev.pair (Ev.f1 T_mate_of (Ev.var 1)) (Ev.var 1)) (EvL.nil (e := (eP eI eI))))))) (fun v2 => (StF.seqN (StN.unp (Ev.f1 T_pair_by (Ev.c1 tAbs (Ev.bin tSub (Ev.var 0) (Ev.var 1)))) (Tg.p2 3 4)) (fun v3 => (StF.seqN (StN.app 2 (xs := v2) (Ev.ite (Te.b (Ev.bin tLt (Ev.var 0) (Ev.var 1))) (Ev.pair (Ev.var 3) (Ev.var 4)) (Ev.pair (Ev.var 4) (Ev.var 3)))) (fun v4 => (StF.seqN (StN.frz 2 (ds := List.map (eP eI eI) v4)) (fun v5 => (StF.seqN (StN.asg 5 (Ev.s (Ev.comp (It.sl (Ev.var 2)) (Tg.n 6) (fun x6 => (Te.and (Te.b (Ev.bin tLe (Ev.fst (Ev.var 6)) (Ev.var 0))) (Te.b (Ev.bin tLe (Ev.snd (Ev.var 6)) (Ev.var 1))))) (fun x6 => (Ev.var 6))))) (fun v7 => (StF.ret (Ev.c1 tTupL (Ev.c1 tSetP (Ev.var 5))))))))))))))))) S r hr
def P_is_golden (a0 : Int) (a1 : Int) : Option Bool := (pB2 (fun a b => some (decide (b < a))) (pB2 (fun a b => some (a - b)) (pB2 (fun a b => some (a - b)) (pB2 pMul (some a0) (some a0)) (pB2 pMul (some a0) (some a1))) (pB2 pMul (some a1) (some a1))) (some (0 : Int)))
theorem T_is_golden : FnT2 F_is_golden eI eI eB P_is_golden := fun S a0 a1 r hr => fn_st (n := 2) (p := P_is_golden a0 a1) [eI a0, eI a1] (StF.ret (Ev.bin tGt (Ev.bin tSub (Ev.bin tSub (Ev.bin tMul (Ev.var 0) (Ev.var 0)) (Ev.bin tMul (Ev.var 0) (Ev.var 1))) (Ev.bin tMul (Ev.var 1) (Ev.var 1))) (Ev.c (e := eI) (v := 0)))) S r hr
def P_is_euclid_won (a0 : Int) (a1 : Int) : Option Bool := ((pB2 (fun a b => some (a, b)) (pB2 (fun a b => some (minI a b)) (some a0) (some a1)) (pB2 (fun a b => some (maxI a b)) (some a0) (some a1))).bind fun v1 => (pAnd (pB2 (fun a b => some (decide (b < a))) (some v1.1) (some (0 : Int))) (pOr (pB2 (fun a b => some (decide (a = b))) (some v1.1) (some v1.2)) (pB2 P_is_golden (some v1.2) (some v1.1)))))
theorem T_is_euclid_won : FnT2 F_is_euclid_won eI eI eB P_is_euclid_won := fun S a0 a1 r hr => fn_st (n := 4) (p := P_is_euclid_won a0 a1) [eI a0, eI a1] (StF.seqN (StN.par2 2 3 (Ev.s (Ev.c2 tMin (Ev.var 0) (Ev.var 1))) (Ev.s (Ev.c2 tMax (Ev.var 0) (Ev.var 1)))) (fun v1 => (StF.ret (Ev.and (Ev.bin tGt (Ev.var 2) (Ev.c (e := eI) (v := 0))) (Ev.or (Ev.bin (tEq EqE.int) (Ev.var 2) (Ev.var 3)) (Ev.f2 T_is_golden (Ev.var 3) (Ev.var 2))))))) S r hr
def P_euclid_wins (a0 : Int) (a1 : Int) : Option Bool := ((pB3 P_check_two (some a0) (some a1) (some (1 : Int))).bind fun v1 => (pB2 P_is_euclid_won (some a0) (some a1)))
theorem T_euclid_wins : FnT2 F_euclid_wins eI eI eB P_euclid_wins := fun S a0 a1 r hr => fn_st (n := 2) (p := P_euclid_wins a0 a1) [eI a0, eI a1] (StF.seqN (StN.expr (Ev.f3 T_check_two (Ev.var 0) (Ev.var 1) (Ev.c (e := eI) (v := 1)))) (fun v1 => (StF.ret (Ev.f2 T_is_euclid_won (Ev.var 0) (Ev.var 1))))) S r hr
def P_euclid_good (a0 : Int) (a1 : Int) : Option (List Int) := ((pB3 P_check_two (some a0) (some a1) (some (1 : Int))).bind fun v1 => ((pB2 (fun a b => some (a, b)) (pB2 (fun a b => some (minI a b)) (some a0) (some a1)) (pB2 (fun a b => some (maxI a b)) (some a0) (some a1))).bind fun v2 => ((pB2 pDiv (some v2.2) (some v2.1)).bind fun v3 => (((pB1 pFit (pB2 (fun x xs => some (x :: xs)) (pB2 (fun a b => some (a - b)) (some v3) (some (1 : Int))) (pB2 (fun x xs => some (x :: xs)) (some v3) (some ([] : List Int))))).bind fun xs => (pFit xs).bind fun xs => pComp (fun (x4 : Int) => (pB2 (fun a b => some (decide (b < a))) (some x4) (some (0 : Int)))) (fun (x4 : Int) => (some x4)) xs).bind fun v5 => (pB1 (fun xs => some xs) ((some v5).bind fun xs => (pFit xs).bind fun xs => pComp (fun (x6 : Int) => (pNot (pB2 P_is_euclid_won (some v2.1) (pB2 (fun a b => some (a - b)) (some v2.2) (pB2 pMul (some x6) (some v2.1)))))) (fun (x6 : Int) => (some x6)) xs))))))
theorem T_euclid_good : FnT2 F_euclid_good eI eI (eV eI) P_euclid_good := fun S a0 a1 r hr => fn_st (n := 7) (p := P_euclid_good a0 a1) [eI a0, eI a1] (StF.seqN (StN.expr (Ev.f3 T_check_two (Ev.var 0) (Ev.var 1) (Ev.c (e := eI) (v := 1)))) (fun v1 => (StF.seqN (StN.unp (Ev.pair (Ev.c2 tMin (Ev.var 0) (Ev.var 1)) (Ev.c2 tMax (Ev.var 0) (Ev.var 1))) (Tg.p2 2 3)) (fun v2 => (StF.seqN (StN.asg 4 (Ev.s (Ev.bin tDiv (Ev.var 3) (Ev.var 2)))) (fun v3 => (StF.seqN (StN.asg 5 (Ev.s (Ev.comp (It.t (Ev.vtup (EvL.cons (Ev.bin tSub (Ev.var 4) (Ev.c (e := eI) (v := 1))) (EvL.cons (Ev.var 4) (EvL.nil (e := eI)))))) (Tg.n 6) (fun x4 => (Te.b (Ev.bin tGt (Ev.var 6) (Ev.c (e := eI) (v := 0))))) (fun x4 => (Ev.var 6))))) (fun v5 => (StF.ret (Ev.c1 tTupL (Ev.comp (It.sl (Ev.var 5)) (Tg.n 6) (fun x6 => (Te.not (Te.b (Ev.f2 T_is_euclid_won (Ev.var 2) (Ev.bin tSub (Ev.var 3) (Ev.bin tMul (Ev.var 6) (Ev.var 2))))))) (fun x6 => (Ev.var 6))))))))))))) S r hr
def P_law_there (a0 : Int) (a1 : Int) : Option (List (Int × Int)) := (((pB2 pRange (some (1 : Int)) (pB2 (fun a b => some (a + b)) (some a0) (some (1 : Int)))).bind fun xs => (pFit xs).bind fun xs => pComp (fun (x1 : Int) => (some true)) (fun (x1 : Int) => (pB2 (fun a b => some (a, b)) (pB2 (fun a b => some (a - b)) (some a0) (some x1)) (some a1))) xs).bind fun v2 => ((((pB2 pRange (some (1 : Int)) (pB2 (fun a b => some (a + b)) (some a1) (some (1 : Int)))).bind fun xs => (pFit xs).bind fun xs => pComp (fun (x3 : Int) => (some true)) (fun (x3 : Int) => (pB2 (fun a b => some (a, b)) (some a0) (pB2 (fun a b => some (a - b)) (some a1) (some x3)))) xs).bind fun a => pFit (v2 ++ a)).bind fun v4 => ((some ()).bind fun v5 => (pB2 pApp (some v4) ((pB2 pRange (some (1 : Int)) (pB2 (fun a b => some (a + b)) (pB2 (fun a b => some (minI a b)) (some a0) (some a1)) (some (1 : Int)))).bind fun xs => (pFit xs).bind fun xs => pComp (fun (x6 : Int) => (some true)) (fun (x6 : Int) => (pB2 (fun a b => some (a, b)) (pB2 (fun a b => some (a - b)) (some a0) (some x6)) (pB2 (fun a b => some (a - b)) (some a1) (some x6)))) xs)))))
theorem T_law_there : FnT2 F_law_there eI eI (eL (eP eI eI)) P_law_there := fun S a0 a1 r hr => fn_st (n := 4) (p := P_law_there a0 a1) [eI a0, eI a1] (StF.seqN (StN.asg 2 (EvS.compN (Ev.comp (It.r2 (Ev.c (e := eI) (v := 1)) (Ev.bin tAdd (Ev.var 0) (Ev.c (e := eI) (v := 1)))) (Tg.n 3) (fun x1 => Te.yes) (fun x1 => (Ev.pair (Ev.bin tSub (Ev.var 0) (Ev.var 3)) (Ev.var 1)))))) (fun v2 => (StF.seqN (StN.ext 2 (xs := v2) (Ev.comp (It.r2 (Ev.c (e := eI) (v := 1)) (Ev.bin tAdd (Ev.var 1) (Ev.c (e := eI) (v := 1)))) (Tg.n 3) (fun x3 => Te.yes) (fun x3 => (Ev.pair (Ev.var 0) (Ev.bin tSub (Ev.var 1) (Ev.var 3)))))) (fun v4 => (StF.seqN (StN.frz 2 (ds := List.map (eP eI eI) v4)) (fun v5 => (StF.ret (Ev.bin tAddL (Ev.var 2) (Ev.comp (It.r2 (Ev.c (e := eI) (v := 1)) (Ev.bin tAdd (Ev.c2 tMin (Ev.var 0) (Ev.var 1)) (Ev.c (e := eI) (v := 1)))) (Tg.n 3) (fun x6 => Te.yes) (fun x6 => (Ev.pair (Ev.bin tSub (Ev.var 0) (Ev.var 3)) (Ev.bin tSub (Ev.var 1) (Ev.var 3))))))))))))) S r hr
def P_law_table (a0 : Int) : Option (List ((Int × Int) × Bool)) := ((some ()).bind fun v1 => (((pB1 (pRange 0) (pB2 (fun a b => some (a + b)) (some a0) (some (1 : Int)))).bind fun xs => pFor (fun (s2 : (List ((Int × Int) × Bool))) (x3 : Int) => (Option.map (fun v8 => v8) ((pB1 (pRange 0) (pB2 (fun a b => some (a + b)) (some a0) (some (1 : Int)))).bind fun xs => pFor (fun (s4 : (List ((Int × Int) × Bool))) (x5 : Int) => (Option.map (fun v7 => v7) (pB2 (fun v k => if okLen (s4.length + 1) = true then some (putT s4 k v) else none) (pB1 (fun xs => some (xs.any id)) ((pB2 P_law_there (some x3) (some x5)).bind fun xs => (pFit xs).bind fun xs => pComp (fun (x6 : (Int × Int)) => (some true)) (fun (x6 : (Int × Int)) => (pNot (pB1 (valT s4) (some x6)))) xs)) (pB2 (fun a b => some (a, b)) (some x3) (some x5))))) xs s2))) xs ([] : (List ((Int × Int) × Bool)))).bind fun v9 => (some v9)))
theorem T_law_table (S : Sto) (a0 : Int) (r : (List ((Int × Int) × Bool))) (hr : P_law_table a0 = some r) : F_law_table [.d (eI a0)] S = some (.loc S.length, S ++ [(fun (x : (List ((Int × Int) × Bool))) => .dT (List.map (eKV (fun (p : Int × Int) => ([Sum.inl p.1, Sum.inl p.2] : List Key)) eB) x)) r]) := fn_stM (n := 5) (fo := (fun (x : (List ((Int × Int) × Bool))) => .dT (List.map (eKV (fun (p : Int × Int) => ([Sum.inl p.1, Sum.inl p.2] : List Key)) eB) x))) (p := P_law_table a0) [eI a0] (StFM.seqN (StN.asg 1 EvS.newT) (fun v1 => (StFM.seqN (StN.for (fun (s2 : (List ((Int × Int) × Bool))) => [.w (.d (eI a0)), .m (.dT (List.map (eKV (fun (p : Int × Int) => ([Sum.inl p.1, Sum.inl p.2] : List Key)) eB) s2)), .j, .j, .j]) ([] : (List ((Int × Int) × Bool))) (It.r1 (Ev.bin tAdd (Ev.var 0) (Ev.c (e := eI) (v := 1)))) (Le.e (Le.e (Le.j (Le.j (Le.j Le.nil))))) (Tg.n 2) (fun s2 x3 => (StN.to (StN.for (fun (s4 : (List ((Int × Int) × Bool))) => [.w (.d (eI a0)), .m (.dT (List.map (eKV (fun (p : Int × Int) => ([Sum.inl p.1, Sum.inl p.2] : List Key)) eB) s4)), .w (.d (eI x3)), .j, .j]) s2 (It.r1 (Ev.bin tAdd (Ev.var 0) (Ev.c (e := eI) (v := 1)))) (Le.e (Le.e (Le.e (Le.j (Le.j Le.nil))))) (Tg.n 3) (fun s4 x5 => (StN.to (StN.putT 1 KT.ii (kvs := s4) (Ev.c1 tAny (Ev.comp (It.l (Ev.f2 T_law_there (Ev.var 2) (Ev.var 3))) (Tg.n 4) (fun x6 => Te.yes) (fun x6 => (Ev.not (Ev.getT 1 KT.ii (Ev.var 4)))))) (Ev.pair (Ev.var 2) (Ev.var 3))) (fun v7 => v7) (fun v7 => (Le.e (Le.e (Le.e (Le.j (Le.j Le.nil))))))))) (fun v8 => v8) (fun v8 => (Le.e (Le.e (Le.j (Le.j (Le.j Le.nil))))))))) (fun v9 => (StFM.ret 1 (v := v9)))))) S r hr
def P_law_are_pairs_right  : Option Bool := ((pB1 pFit (some ([] : List Int))).bind fun v1 => (pSeqF ((pB1 (pRange 0) (some (60 : Int))).bind fun xs => pForR (fun (s2 : (List Int)) (x3 : Int) => ((pB1 pMinL ((pB1 (pRange 0) (pB2 (fun a b => some (a + b)) (some ((List.map eI s2).length : Int)) (some (1 : Int)))).bind fun xs => (pFit xs).bind fun xs => pComp (fun (x4 : Int) => (Option.map (fun a => !decide (a ∈ s2)) (some x4))) (fun (x4 : Int) => (some x4)) xs)).bind fun v5 => (pIf (pB2 (pRep (eP eI eI) false) (pB1 P_wythoff (pB1 (fun a => some a) (some x3))) (pB2 (fun a b => some (a, b)) (pB1 (fun a => some a) (some v5)) (pB1 (fun a => some a) (pB2 (fun a b => some (a + b)) (some v5) (some x3))))) (Option.map Sum.inr (some false)) (Option.map Sum.inl (Option.map (fun v6 => v6) ((pB1 pFit (pB2 (fun x xs => some (x :: xs)) (some v5) (pB2 (fun x xs => some (x :: xs)) (pB2 (fun a b => some (a + b)) (some v5) (some x3)) (some ([] : List Int))))).bind fun a => pFit (s2 ++ a))))))) xs v1) (fun v7 => (some true))))
theorem T_law_are_pairs_right : FnT0 F_law_are_pairs_right  eB P_law_are_pairs_right := fun S  r hr => fn_st (n := 4) (p := P_law_are_pairs_right ) [] (StF.seqN (StN.asg 0 (EvS.new (EvL.nil (e := eI)))) (fun v1 => (StF.seqR (StR.for (fun (s2 : (List Int)) => [.m (.lst (List.map eI s2)), .j, .j, .j]) v1 (It.r1 (Ev.c (e := eI) (v := 60))) (Le.e (Le.j (Le.j (Le.j Le.nil)))) (Tg.n 1) (fun s2 x3 => (StR.seqN (StN.asg 2 (Ev.s (Ev.c1 tMinL (Ev.comp (It.r1 (Ev.bin tAdd (Ev.lenM 0) (Ev.c (e := eI) (v := 1)))) (Tg.n 3) (fun x4 => (Te.b (Ev.ninM 0 EqE.int (Ev.var 3)))) (fun x4 => (Ev.var 3)))))) (fun v5 => (StR.guard (Te.b (Ev.rep (Ev.k1 T_wythoff (Ev.c1 tInt (Ev.var 1))) (Ev.pair (Ev.c1 tInt (Ev.var 2)) (Ev.c1 tInt (Ev.bin tAdd (Ev.var 2) (Ev.var 1)))))) (StF.ret (Ev.c (e := eB) (v := false))) (StR.ofN (StN.to (StN.ext 0 (xs := s2) (Ev.lst (EvL.cons (Ev.var 2) (EvL.cons (Ev.bin tAdd (Ev.var 2) (Ev.var 1)) (EvL.nil (e := eI)))))) (fun v6 => v6) (fun v6 => (Le.e (Le.j (Le.j (Le.j Le.nil)))))))))))) (fun v7 => (StF.ret (Ev.c (e := eB) (v := true))))))) S r hr
def D_law_are_great_right  : Dm (Int × Unit) Bool := (dBind (dBind (dBind (dOpt (pB2 (fun a b => some (a + b)) (pB2 pPow (some (10 : Int)) (some (9 : Int))) (some (1 : Int)))) dTake) fun a => dOpt ((fun a => some a) a)) fun v1 => (dBind (dOpt (pB1 P_wythoff (some v1))) fun v2 => (dBind (dOpt (pB2 (fun a b => some (a, b)) (pB2 (fun a b => some (a - b)) (pB2 pMul (some (2 : Int)) (some v2.1)) (some v1)) (pB2 (fun a b => some (a - b)) (pB2 (fun a b => some (a + b)) (pB2 pMul (some (2 : Int)) (some v2.1)) (some (2 : Int))) (some v1)))) fun v3 => (dIf (dIf (dOpt (pB2 (fun a b => some (!decide (a = b))) (pB2 (fun a b => some (a - b)) (some v2.2) (some v2.1)) (some v1))) (dOpt (some true)) (dIf (dOpt (pB2 (fun a b => some (decide (b < a))) (pB2 pMul (some v3.1) (some v3.1)) (pB2 pMul (pB2 pMul (some (5 : Int)) (some v1)) (some v1)))) (dOpt (some true)) (dOpt (pB2 (fun a b => some (decide (a ≤ b))) (pB2 pMul (some v3.2) (some v3.2)) (pB2 pMul (pB2 pMul (some (5 : Int)) (some v1)) (some v1)))))) (dOpt (some false)) (dIf (dIf (dOpt (pB2 (fun a b => some (!decide (a = b))) (pB2 P_two_win (some v2.1) (some v2.2)) (some false))) (dOpt (some true)) (dIf (dOpt (pB2 (fun a b => some (!decide (a = b))) (pB2 P_two_win (some v2.2) (some v2.1)) (some false))) (dOpt (some true)) (dOpt (pB2 (fun a b => some (!decide (a = b))) (pB2 P_two_good (some v2.2) (some v2.1)) (pB1 pFit (some ([] : List (Int × Int)))))))) (dOpt (some false)) (dBind (dBind (dBind (dOpt (some (1 : Int))) fun a => dBind (dBind (dOpt (pB2 pPow (some (10 : Int)) (some (6 : Int)))) dTake) fun b => dOpt ((fun a b => some (a + b)) a b)) fun a => dOpt ((fun a => some a) a)) fun v4 => (dIf (dIf (dOpt (pB2 (fun a b => some (!decide (a = b))) (pB2 P_two_win (some v2.1) (pB2 (fun a b => some (a + b)) (some v2.2) (some v4))) (some true))) (dOpt (some true)) (dOpt (pB2 (fun a b => some (!decide (a ∈ b))) (pB2 (fun a b => some (a, b)) (some v2.1) (some v2.2)) (pB2 P_two_good (some v2.1) (pB2 (fun a b => some (a + b)) (some v2.2) (some v4)))))) (dOpt (some false)) (dIf (dOpt (pB2 (fun a b => some (!decide (a ∈ b))) (pB2 (fun a b => some (a, b)) (some v2.1) (some v2.2)) (pB2 P_two_good (pB2 (fun a b => some (a + b)) (some v2.1) (some v4)) (pB2 (fun a b => some (a + b)) (some v2.2) (some v4))))) (dOpt (some false)) (dSeqF (dBind (dOpt (pB2 P_two_good (pB2 (fun a b => some (a + b)) (some v2.2) (some v4)) (some v2.1))) fun xs => dForR (fun (s5 : Unit) (x6 : (Int × Int)) => (dIf (dOpt (pB2 (fun a b => some (!decide (a = b))) (pB2 P_two_win (some x6.1) (some x6.2)) (some false))) (dMap Sum.inr (dOpt (some false))) (dMap Sum.inl (dMap (fun _ => ()) (dOpt (some ())))))) xs ()) (fun v7 => (dBind (dBind (dBind (dBind (dOpt (some (1 : Int))) fun a => dBind (dBind (dOpt (pB2 pPow (some (10 : Int)) (some (12 : Int)))) dTake) fun b => dOpt ((fun a b => some (a + b)) a b)) fun a => dOpt ((fun a => some a) a)) fun a => dBind (dBind (dBind (dOpt (some (1 : Int))) fun a => dBind (dBind (dOpt (pB2 pPow (some (10 : Int)) (some (12 : Int)))) dTake) fun b => dOpt ((fun a b => some (a + b)) a b)) fun a => dOpt ((fun a => some a) a)) fun b => dOpt (some (a, b))) fun v8 => (dBind (dOpt (pB2 (fun a b => some (a, b)) (pB2 (fun a b => some (minI a b)) (some v8.1) (some v8.2)) (pB2 (fun a b => some (maxI a b)) (some v8.1) (some v8.2)))) fun v9 => (dBind (dOpt (pOr (pB2 (fun a b => some (decide (a = b))) (some v9.1) (some v9.2)) (pB2 (fun a b => some (decide (b < a))) (pB2 pPow (pB2 (fun a b => some (a - b)) (pB2 pMul (some (2 : Int)) (some v9.2)) (some v9.1)) (some (2 : Int))) (pB2 pMul (pB2 pMul (some (5 : Int)) (some v9.1)) (some v9.1))))) fun v10 => (dIf (dIf (dOpt (pB2 (fun a b => some (!decide (a = b))) (pB2 P_euclid_wins (some v8.1) (some v8.2)) (some v10))) (dOpt (some true)) (dOpt (pB2 (fun a b => some (!decide (a = b))) (pB2 (fun a b => some (!decide (a = b))) (pB2 P_euclid_good (some v8.1) (some v8.2)) (pB1 pFit (some ([] : List Int)))) (some v10)))) (dOpt (some false)) (dSeqF (dBind (dOpt (pB2 P_euclid_good (some v8.1) (some v8.2))) fun xs => dForR (fun (s11 : Unit) (x12 : Int) => (dBind (dOpt (pB2 (fun a b => some (a - b)) (some v9.2) (pB2 pMul (some x12) (some v9.1)))) fun v13 => (dIf (dIf (dOpt (pB2 (fun a b => some (decide (a < b))) (some v13) (some (0 : Int)))) (dOpt (some true)) (dIf (dOpt (pB2 (fun a b => some (decide (b < a))) (some v13) (some (0 : Int)))) (dOpt (pB2 (fun a b => some (!decide (a = b))) (pB2 P_euclid_wins (some v9.1) (some v13)) (some false))) (dOpt (some false)))) (dMap Sum.inr (dOpt (some false))) (dMap Sum.inl (dMap (fun _ => ()) (dOpt (some ()))))))) xs ()) (fun v14 => (dOpt (some true))))))))))))))))))
theorem T_law_are_great_right  : DrF WP F_law_are_great_right (fun pn => [.loc pn]) eB (D_law_are_great_right ) := fn_dr (st := Int × Unit) (Wd := WP) (er := eB) (b := b_law_are_great_right) (N := 14) (d := D_law_are_great_right ) (fun pn => [.loc pn]) (fun pn => (DvF.seqN (DvN.asg 1 (DvE.c1 tInt (DvE.take 0 take_ok (DvE.pure (fun _ => (Ev.bin tAdd (Ev.bin tPow (Ev.c (e := eI) (v := 10)) (Ev.c (e := eI) (v := 9))) (Ev.c (e := eI) (v := 1)))))))) (fun v1 => (DvF.seqN (DvN.pure (fun _ => (StN.unp (Ev.f1 T_wythoff (Ev.var 1)) (Tg.p2 2 3)))) (fun v2 => (DvF.seqN (DvN.pure (fun _ => (StN.par2 4 5 (Ev.s (Ev.bin tSub (Ev.bin tMul (Ev.c (e := eI) (v := 2)) (Ev.var 2)) (Ev.var 1))) (Ev.s (Ev.bin tSub (Ev.bin tAdd (Ev.bin tMul (Ev.c (e := eI) (v := 2)) (Ev.var 2)) (Ev.c (e := eI) (v := 2))) (Ev.var 1)))))) (fun v3 => (DvF.guard (DvT.or (DvT.b (DvE.pure (fun _ => (Ev.bin (tNe EqE.int) (Ev.bin tSub (Ev.var 3) (Ev.var 2)) (Ev.var 1))))) (DvT.or (DvT.b (DvE.pure (fun _ => (Ev.bin tGt (Ev.bin tMul (Ev.var 4) (Ev.var 4)) (Ev.bin tMul (Ev.bin tMul (Ev.c (e := eI) (v := 5)) (Ev.var 1)) (Ev.var 1)))))) (DvT.b (DvE.pure (fun _ => (Ev.bin tLe (Ev.bin tMul (Ev.var 5) (Ev.var 5)) (Ev.bin tMul (Ev.bin tMul (Ev.c (e := eI) (v := 5)) (Ev.var 1)) (Ev.var 1)))))))) (DvF.ret (DvE.pure (fun _ => (Ev.c (e := eB) (v := false))))) (DvF.guard (DvT.or (DvT.b (DvE.pure (fun _ => (Ev.bin tIsNB (Ev.f2 T_two_win (Ev.var 2) (Ev.var 3)) (Ev.c (e := eB) (v := false)))))) (DvT.or (DvT.b (DvE.pure (fun _ => (Ev.bin tIsNB (Ev.f2 T_two_win (Ev.var 3) (Ev.var 2)) (Ev.c (e := eB) (v := false)))))) (DvT.b (DvE.pure (fun _ => (Ev.bin (tNe (EqE.v (EqE.p EqE.int EqE.int))) (Ev.f2 T_two_good (Ev.var 3) (Ev.var 2)) (Ev.vtup (EvL.nil (e := (eP eI eI)))))))))) (DvF.ret (DvE.pure (fun _ => (Ev.c (e := eB) (v := false))))) (DvF.seqN (DvN.asg 6 (DvE.c1 tInt (DvE.bin tAdd (DvE.pure (fun _ => (Ev.c (e := eI) (v := 1)))) (DvE.take 0 take_ok (DvE.pure (fun _ => (Ev.bin tPow (Ev.c (e := eI) (v := 10)) (Ev.c (e := eI) (v := 6))))))))) (fun v4 => (DvF.guard (DvT.or (DvT.b (DvE.pure (fun _ => (Ev.bin tIsNB (Ev.f2 T_two_win (Ev.var 2) (Ev.bin tAdd (Ev.var 3) (Ev.var 6))) (Ev.c (e := eB) (v := true)))))) (DvT.b (DvE.pure (fun _ => (Ev.bin (tNinVE (EqE.p EqE.int EqE.int)) (Ev.pair (Ev.var 2) (Ev.var 3)) (Ev.f2 T_two_good (Ev.var 2) (Ev.bin tAdd (Ev.var 3) (Ev.var 6)))))))) (DvF.ret (DvE.pure (fun _ => (Ev.c (e := eB) (v := false))))) (DvF.guard (DvT.b (DvE.pure (fun _ => (Ev.bin (tNinVE (EqE.p EqE.int EqE.int)) (Ev.pair (Ev.var 2) (Ev.var 3)) (Ev.f2 T_two_good (Ev.bin tAdd (Ev.var 2) (Ev.var 6)) (Ev.bin tAdd (Ev.var 3) (Ev.var 6))))))) (DvF.ret (DvE.pure (fun _ => (Ev.c (e := eB) (v := false))))) (DvF.seqR (DvR.for (fun (s5 : Unit) (_ : Int × Unit) => [.w (.loc pn), .w (.d (eI v1)), .w (.d (eI v2.1)), .w (.d (eI v2.2)), .w (.d (eI v3.1)), .w (.d (eI v3.2)), .w (.d (eI v4)), .j, .j, .j, .j, .j, .j, .j]) () (DvI.pure (fun _ => (It.t (Ev.f2 T_two_good (Ev.bin tAdd (Ev.var 3) (Ev.var 6)) (Ev.var 2))))) (fun _ => (Le.e (Le.e (Le.e (Le.e (Le.e (Le.e (Le.e (Le.j (Le.j (Le.j (Le.j (Le.j (Le.j (Le.j Le.nil))))))))))))))) (Tg.p2 7 8) (fun s5 x6 => (DvR.ite (DvT.b (DvE.pure (fun _ => (Ev.bin tIsNB (Ev.f2 T_two_win (Ev.var 7) (Ev.var 8)) (Ev.c (e := eB) (v := false)))))) (DvR.ofF (DvF.ret (DvE.pure (fun _ => (Ev.c (e := eB) (v := false)))))) (DvR.ofN (DvN.to (DvN.pure (fun _ => StN.skip)) (fun _ => ()) (fun _ _ => (Le.e (Le.e (Le.e (Le.e (Le.e (Le.e (Le.e (Le.j (Le.j (Le.j (Le.j (Le.j (Le.j (Le.j Le.nil)))))))))))))))))))) (fun v7 => (DvF.seqN (DvN.par2 7 8 (DvE.c1 tInt (DvE.bin tAdd (DvE.pure (fun _ => (Ev.c (e := eI) (v := 1)))) (DvE.take 0 take_ok (DvE.pure (fun _ => (Ev.bin tPow (Ev.c (e := eI) (v := 10)) (Ev.c (e := eI) (v := 12)))))))) (DvE.c1 tInt (DvE.bin tAdd (DvE.pure (fun _ => (Ev.c (e := eI) (v := 1)))) (DvE.take 0 take_ok (DvE.pure (fun _ => (Ev.bin tPow (Ev.c (e := eI) (v := 10)) (Ev.c (e := eI) (v := 12))))))))) (fun v8 => (DvF.seqN (DvN.pure (fun _ => (StN.par2 9 10 (Ev.s (Ev.c2 tMin (Ev.var 7) (Ev.var 8))) (Ev.s (Ev.c2 tMax (Ev.var 7) (Ev.var 8)))))) (fun v9 => (DvF.seqN (DvN.pure (fun _ => (StN.asg 11 (Ev.s (Ev.or (Ev.bin (tEq EqE.int) (Ev.var 9) (Ev.var 10)) (Ev.bin tGt (Ev.bin tPow (Ev.bin tSub (Ev.bin tMul (Ev.c (e := eI) (v := 2)) (Ev.var 10)) (Ev.var 9)) (Ev.c (e := eI) (v := 2))) (Ev.bin tMul (Ev.bin tMul (Ev.c (e := eI) (v := 5)) (Ev.var 9)) (Ev.var 9)))))))) (fun v10 => (DvF.guard (DvT.or (DvT.b (DvE.pure (fun _ => (Ev.bin (tNe EqE.bool) (Ev.f2 T_euclid_wins (Ev.var 7) (Ev.var 8)) (Ev.var 11))))) (DvT.b (DvE.pure (fun _ => (Ev.bin (tNe EqE.bool) (Ev.bin (tNe (EqE.v EqE.int)) (Ev.f2 T_euclid_good (Ev.var 7) (Ev.var 8)) (Ev.vtup (EvL.nil (e := eI)))) (Ev.var 11)))))) (DvF.ret (DvE.pure (fun _ => (Ev.c (e := eB) (v := false))))) (DvF.seqR (DvR.for (fun (s11 : Unit) (_ : Int × Unit) => [.w (.loc pn), .w (.d (eI v1)), .w (.d (eI v2.1)), .w (.d (eI v2.2)), .w (.d (eI v3.1)), .w (.d (eI v3.2)), .w (.d (eI v4)), .w (.d (eI v8.1)), .w (.d (eI v8.2)), .w (.d (eI v9.1)), .w (.d (eI v9.2)), .w (.d (eB v10)), .j, .j]) () (DvI.pure (fun _ => (It.t (Ev.f2 T_euclid_good (Ev.var 7) (Ev.var 8))))) (fun _ => (Le.e (Le.e (Le.e (Le.e (Le.e (Le.e (Le.e (Le.e (Le.e (Le.e (Le.e (Le.e (Le.j (Le.j Le.nil))))))))))))))) (Tg.n 12) (fun s11 x12 => (DvR.seqN (DvN.pure (fun _ => (StN.asg 13 (Ev.s (Ev.bin tSub (Ev.var 10) (Ev.bin tMul (Ev.var 12) (Ev.var 9))))))) (fun v13 => (DvR.ite (DvT.or (DvT.b (DvE.pure (fun _ => (Ev.bin tLt (Ev.var 13) (Ev.c (e := eI) (v := 0)))))) (DvT.and (DvT.b (DvE.pure (fun _ => (Ev.bin tGt (Ev.var 13) (Ev.c (e := eI) (v := 0)))))) (DvT.b (DvE.pure (fun _ => (Ev.bin tIsNB (Ev.f2 T_euclid_wins (Ev.var 9) (Ev.var 13)) (Ev.c (e := eB) (v := false)))))))) (DvR.ofF (DvF.ret (DvE.pure (fun _ => (Ev.c (e := eB) (v := false)))))) (DvR.ofN (DvN.to (DvN.pure (fun _ => StN.skip)) (fun _ => ()) (fun _ _ => (Le.e (Le.e (Le.e (Le.e (Le.e (Le.e (Le.e (Le.e (Le.e (Le.e (Le.e (Le.e (Le.j (Le.j Le.nil)))))))))))))))))))))) (fun v14 => (DvF.ret (DvE.pure (fun _ => (Ev.c (e := eB) (v := true)))))))))))))))))))))))))))))
end K74

set_option Elab.async false
set_option linter.all false
set_option maxRecDepth 100000
set_option autoImplicit false
/-! law k74: what its defs compute. -/
noncomputable section
namespace K74
open PySem PySem.Spec PyProof.Rows L2 DL
def Ok {α : Type} (p : Option α) (Q : α → Prop) : Prop := ∃ a, p = some a ∧ Q a
section
variable {α β γ : Type}
theorem Ok.bind {p : Option α} {f : α → Option β} {P : α → Prop} {Q : β → Prop} (h : Ok p P) (g : ∀ a, P a → Ok (f a) Q) : Ok (p.bind f) Q := by
  obtain ⟨a, rfl, h2⟩ := h
  exact g a h2
theorem Ok.mono {p : Option α} {P Q : α → Prop} (h : Ok p P) (g : ∀ a, P a → Q a) : Ok p Q := by
  obtain ⟨a, h1, h2⟩ := h
  exact ⟨a, h1, g a h2⟩
theorem Ok.while {c : α → Option Bool} {b : α → Option α} (I : Nat → α → Prop) (h : ∀ m a, I m a → Ok (c a) fun k => k = true → ∃ m', m = m' + 1 ∧ Ok (b a) (I m')) : ∀ (n m : Nat) (a : α), m < n → I m a → Ok (pWhile c b n a) fun a' => (∃ m', I m' a') ∧ c a' = some false := by
  intro n
  induction n with
  | zero => intro m a hm; omega
  | succ n ih =>
    intro m a hm hI
    obtain ⟨k, h1, h2⟩ := h m a hI
    unfold pWhile
    rw [h1]
    cases k with
    | false => exact ⟨a, rfl, ⟨m, hI⟩, h1⟩
    | true =>
      obtain ⟨m', rfl, a', h3, h4⟩ := h2 rfl
      simp only [Option.bind_some, if_true, h3]
      exact ih m' a' (by omega) h4
theorem Ok.whileM {c : α → Option Bool} {b : α → Option α} {n : Nat} {a : α} {Q : α → Prop} (I : Nat → α → Prop) (m : Nat) (hm : m < n) (h0 : I m a) (h : ∀ m a, I m a → Ok (c a) fun k => k = true → ∃ m', m = m' + 1 ∧ Ok (b a) (I m')) (hq : ∀ a', (∃ m', I m' a') ∧ c a' = some false → Q a') : Ok (pWhile c b n a) Q :=
  (Ok.while I h n m a hm h0).mono hq
end
theorem mul_l {a b : Int} (h1 : -1000000000000000000 < a) (h2 : a < 1000000000000000000) : pMul a b = some (a * b) := pMul_l (by omega) (by omega)
theorem div2 (a : Int) : pDiv a 2 = some (a / 2) := pDiv_of (by omega) (by omega)
theorem root_ok {n : Int} (h0 : 0 ≤ n) (hn : n < 77371252455336267181195264) : Ok (P_root_of n) fun r => 0 ≤ r ∧ r < 17592186044416 ∧ r * r ≤ n ∧ n < (r + 1) * (r + 1) := by
  unfold P_root_of
  refine Ok.bind (P := fun v => v = 1) ⟨1, rfl, rfl⟩ fun v1 hv => ?_
  subst hv
  refine Ok.bind (P := fun s => 1 ≤ s ∧ s ≤ 17592186044416 ∧ n < s * s) (Ok.whileM (fun m s => 1 ≤ s ∧ s * ((2 ^ m : Nat) : Int) = 17592186044416) 44 (by omega) ⟨by omega, by decide⟩ ?_ ?_) ?_
  · rintro m s ⟨h1, h2⟩
    have hp : 0 < 2 ^ m := Nat.two_pow_pos m
    have hs : s ≤ 17592186044416 := by
      have := Int.mul_le_mul_of_nonneg_left (a := 1) (b := ((2 ^ m : Nat) : Int)) (c := s) (by omega) (by omega)
      omega
    refine ⟨decide (s * s ≤ n), ?_, fun k => ?_⟩
    · simp only [pB2, Option.bind_some, mul_l (a := s) (b := s) (by omega) (by omega)]
    · have hk : s * s ≤ n := by simpa using k
      cases m with
      | zero =>
        have e : s = 17592186044416 := by simpa using h2
        subst e
        omega
      | succ m =>
        refine ⟨m, rfl, 2 * s, ?_, by omega, ?_⟩
        · simp only [pB2, Option.bind_some, mul_l (a := 2) (b := s) (by omega) (by omega), Option.map_some]
        · rw [← h2, Nat.pow_succ]
          have : ((2 ^ m * 2 : Nat) : Int) = 2 * ((2 ^ m : Nat) : Int) := by omega
          rw [this]
          grind
  · rintro s ⟨⟨m, h1, h2⟩, h3⟩
    have hp : 0 < 2 ^ m := Nat.two_pow_pos m
    have hs : s ≤ 17592186044416 := by
      have := Int.mul_le_mul_of_nonneg_left (a := 1) (b := ((2 ^ m : Nat) : Int)) (c := s) (by omega) (by omega)
      omega
    refine ⟨h1, hs, ?_⟩
    simp only [pB2, Option.bind_some, mul_l (a := s) (b := s) (by omega) (by omega)] at h3
    have := Option.some.inj h3
    simp at this
    omega
  · rintro h ⟨h1, h2, h3⟩
    refine Ok.bind (P := fun v => v = 0) ⟨0, rfl, rfl⟩ fun v1 hv => ?_
    subst hv
    refine Ok.bind (P := fun s => 0 ≤ s.1 ∧ s.1 < 17592186044416 ∧ s.1 * s.1 ≤ n ∧ n < (s.1 + 1) * (s.1 + 1)) (Ok.whileM (fun m s => 0 ≤ s.1 ∧ s.1 < s.2 ∧ s.2 ≤ 17592186044416 ∧ s.2 - s.1 ≤ ((2 ^ m : Nat) : Int) ∧ s.1 * s.1 ≤ n ∧ n < s.2 * s.2) 44 (by omega) ⟨by show (0 : Int) ≤ 0; omega, by show (0 : Int) < h; omega, h2, by show h - 0 ≤ _; omega, by show (0 : Int) * 0 ≤ n; omega, h3⟩ ?_ ?_) ?_
    · rintro m ⟨l, u⟩ ⟨g1, g2, g3, g4, g5, g6⟩
      simp only at g1 g2 g3 g4 g5 g6
      refine ⟨decide (1 < u - l), rfl, fun k => ?_⟩
      have hk : 1 < u - l := by simpa using k
      cases m with
      | zero => simp at g4; omega
      | succ m =>
        rw [Nat.pow_succ] at g4
        refine ⟨m, rfl, ?_⟩
        refine Ok.bind (P := fun v => v = (l + u) / 2) ⟨(l + u) / 2, ?_, rfl⟩ fun v7 hv => ?_
        · simp only [pB2, Option.bind_some, div2]
        · by_cases c : v7 * v7 ≤ n
          · refine ⟨(v7, u), ?_, by show 0 ≤ v7; omega, by show v7 < u; omega, g3, by show u - v7 ≤ _; omega, c, g6⟩
            simp only [pB2, Option.bind_some, mul_l (a := v7) (b := v7) (by omega) (by omega), pIf, decide_eq_true c, if_true, Option.map_some]
          · refine ⟨(l, v7), ?_, g1, by show l < v7; omega, by show v7 ≤ _; omega, by show v7 - l ≤ _; omega, g5, by show n < v7 * v7; omega⟩
            simp only [pB2, Option.bind_some, mul_l (a := v7) (b := v7) (by omega) (by omega), pIf, decide_eq_false c, Bool.false_eq_true, if_false, Option.map_some]
    · rintro ⟨l, u⟩ ⟨⟨m, g1, g2, g3, g4, g5, g6⟩, hc⟩
      simp only at g1 g2 g3 g4 g5 g6
      have hc' : decide (1 < u - l) = false := Option.some.inj hc
      have : ¬ 1 < u - l := by simpa using hc'
      have e : u = l + 1 := by omega
      subst e
      exact ⟨g1, by show l < _; omega, g5, g6⟩
    · rintro ⟨l, u⟩ h
      exact ⟨l, rfl, h⟩
end K74

set_option Elab.async false
set_option linter.all false
set_option maxRecDepth 100000
set_option autoImplicit false
/-! law k74: pairs. -/
noncomputable section
namespace K74
open PySem PySem.Spec PyProof.Rows L2 DL
theorem pB1_s {α β : Type} (f : α → Option β) (a : α) : pB1 f (some a) = f a := rfl
theorem m5 {n : Int} (h0 : 0 ≤ n) (hn : n ≤ 1000000000010) : pB2 pMul (pB2 pMul (some (5 : Int)) (some n)) (some n) = some (5 * n * n) := by
  simp only [pB2, Option.bind_some, mul_l (a := 5) (b := n) (by omega) (by omega), mul_l (a := 5 * n) (b := n) (by omega) (by omega)]
theorem root5 {n : Int} (h0 : 0 ≤ n) (hn : n ≤ 1000000000010) : ∃ r, (pB1 P_root_of (pB2 pMul (pB2 pMul (some (5 : Int)) (some n)) (some n))) = some r ∧ 0 ≤ r ∧ r < 17592186044416 ∧ r * r ≤ 5 * (n * n) ∧ 5 * (n * n) < (r + 1) * (r + 1) := by
  have e : 5 * n * n = 5 * (n * n) := by grind
  have hb := sq_le h0 hn
  have h2 := Int.mul_nonneg h0 h0
  obtain ⟨r, h1, h3⟩ := root_ok (n := 5 * n * n) (by omega) (by omega)
  refine ⟨r, ?_, ?_⟩
  · rw [m5 h0 hn, pB1_s]
    exact h1
  · rw [e] at h3
    exact h3
theorem pair_ok {n : Int} (h0 : 0 ≤ n) (hn : n ≤ 1000000000010) : ∃ a, P_pair_by n = some (a, a + n) ∧ IsA n a := by
  obtain ⟨r, h1, h2, h3, h4, h5⟩ := root5 h0 hn
  refine ⟨(n + r) / 2, ?_, pair_gz h0 h2 h4 h5 rfl⟩
  unfold P_pair_by
  rw [h1]
  simp -implicitDefEqProofs only [pB1, pB2, Option.bind_some, div2]
theorem pair_eq {n a : Int} (h0 : 0 ≤ n) (hn : n ≤ 1000000000010) (h : IsA n a) : P_pair_by n = some (a, a + n) := by
  obtain ⟨b, h1, h2⟩ := pair_ok h0 hn
  rw [h1, h.uniq h0 h2]
theorem a_zero : IsA 0 0 := ⟨by decide, by decide, by decide⟩
/-- a pair, either way about -/
def Pr (x y : Int) : Prop := ∃ n a, 0 ≤ n ∧ IsA n a ∧ ((x = a ∧ y = a + n) ∨ (y = a ∧ x = a + n))
theorem Pr.symm {x y : Int} (h : Pr x y) : Pr y x := by
  obtain ⟨n, a, h1, h2, h3⟩ := h
  exact ⟨n, a, h1, h2, h3.symm⟩
theorem mate_ok {s : Int} (h0 : 0 ≤ s) (hs : s ≤ 1000000000000) : ∃ m, P_mate_of s = some m ∧ Pr s m ∧ 0 ≤ m := by
  obtain ⟨r, h1, h2, h3, h4, h5⟩ := root5 h0 (by omega)
  obtain ⟨N, hN⟩ : ∃ N, N = (r - s) / 2 := ⟨_, rfl⟩
  have hfit : ∀ xs : List Int, xs.length ≤ 16777216 → pFit xs = some xs := fun xs h => by unfold pFit okLen; rw [if_pos (by simpa using h)]
  have hNs : 0 ≤ N ∧ N ≤ s ∧ (1 ≤ s → N < s ∧ (IsA (N + 1) s ∨ IsA (s - N) N)) := by
    by_cases c : 1 ≤ s
    · obtain ⟨g1, g2, g3, g4⟩ := near_gz c h2 h4 h5 hN
      exact ⟨g3, by omega, fun _ => ⟨g4, mate_case c g1 g2 g3 g4⟩⟩
    · have : s = 0 := by omega
      subst this
      have hr : r = 0 := by
        by_cases d : r = 0
        · exact d
        · have := sq_le (x := 1) (y := r) (by omega) (by omega)
          omega
      subst hr
      exact ⟨by omega, by omega, fun z => by omega⟩
  obtain ⟨hN0, hNs', hcase⟩ := hNs
  obtain ⟨a, p1, p2⟩ := pair_ok (n := N) hN0 (by omega)
  obtain ⟨b, q1, q2⟩ := pair_ok (n := N + 1) (by omega) (by omega)
  unfold P_mate_of
  rw [h1]
  simp -implicitDefEqProofs only [pB1, pB2, Option.bind_some, div2, ← hN]
  rw [hfit _ (by simp)]
  simp -implicitDefEqProofs only [Option.bind_some]
  simp -implicitDefEqProofs only [pForR, pIf, pSeqF, p1, q1, Option.bind_some, Option.map_some]
  by_cases c : a = s
  · subst c
    refine ⟨a + N, ?_, ⟨N, a, hN0, p2, .inl ⟨rfl, rfl⟩⟩, by omega⟩
    simp
  · by_cases d : b = s
    · subst d
      refine ⟨b + (N + 1), ?_, ⟨N + 1, b, by omega, q2, .inl ⟨rfl, rfl⟩⟩, by omega⟩
      simp [c]
    · have hs1 : 1 ≤ s := by
        by_cases z : 1 ≤ s
        · exact z
        · have e1 : s = 0 := by omega
          have e2 : N = 0 := by omega
          subst e1 e2
          exact absurd (p2.uniq (by omega) a_zero) c
      obtain ⟨k1, k2⟩ := hcase hs1
      have k3 : IsA (s - N) N := by
        rcases k2 with k2 | k2
        · exact absurd (q2.uniq (by omega) k2) d
        · exact k2
      simp -implicitDefEqProofs only [decide_eq_false c, decide_eq_false d, Bool.false_eq_true, if_false, Option.bind_some]
      obtain ⟨lo, hlo⟩ : ∃ lo, lo = maxI 0 (s - N - 2) := ⟨_, rfl⟩
      have hlo2 : 0 ≤ lo ∧ lo ≤ s - N ∧ s - N - 2 ≤ lo := by rw [hlo]; unfold maxI; split <;> omega
      have hrg : pRange lo (s - N + 2) = some (pRange.rangeI lo (s - N + 2 - lo).toNat) := pRange_of (by omega) (by omega) (by omega) (by omega)
      rw [← hlo, hrg]
      simp -implicitDefEqProofs only [Option.bind_some]
      rw [hfit _ (by rw [rangeI_len]; omega)]
      simp -implicitDefEqProofs only [Option.bind_some]
      have hmem : ∀ x ∈ pRange.rangeI lo (s - N + 2 - lo).toNat, 0 ≤ x ∧ x ≤ s + 2 := fun x hx => by
        rw [rangeI_map] at hx
        obtain ⟨i, hi, rfl⟩ := List.mem_map.mp hx
        have := List.mem_range.mp hi
        omega
      have hfil : pComp (fun (x5 : Int) => ((Option.map Prod.snd (P_pair_by x5)).bind fun a => some (decide (a = s)))) (fun (x5 : Int) => (some x5)) (pRange.rangeI lo (s - N + 2 - lo).toNat) = some (((pRange.rangeI lo (s - N + 2 - lo).toNat).filter fun x => decide ((((P_pair_by x).getD (0, 0)).2) = s)).map fun x => x) := by
        refine pComp_filter (fun x hx => ?_) (fun x hx _ => rfl)
        obtain ⟨hx1, hx2⟩ := hmem x hx
        obtain ⟨a', p1', p2'⟩ := pair_ok (n := x) hx1 (by omega)
        rw [p1']
        rfl
      rw [hfil, List.map_id']
      simp -implicitDefEqProofs only [Option.bind_some]
      have hin : (s - N) ∈ ((pRange.rangeI lo (s - N + 2 - lo).toNat).filter fun x => decide ((((P_pair_by x).getD (0, 0)).2) = s)) := by
        refine List.mem_filter.mpr ⟨?_, ?_⟩
        · rw [rangeI_map]
          exact List.mem_map.mpr ⟨(s - N - lo).toNat, List.mem_range.mpr (by omega), by omega⟩
        · rw [pair_eq (by omega) (by omega) k3]
          simp
          omega
      obtain ⟨x, xs, hx⟩ : ∃ x xs, ((pRange.rangeI lo (s - N + 2 - lo).toNat).filter fun x => decide ((((P_pair_by x).getD (0, 0)).2) = s)) = x :: xs := by
        cases e : ((pRange.rangeI lo (s - N + 2 - lo).toNat).filter fun x => decide ((((P_pair_by x).getD (0, 0)).2) = s)) with
        | nil => rw [e] at hin; cases hin
        | cons x xs => exact ⟨x, xs, rfl⟩
      have hxm := List.mem_filter.mp (show x ∈ ((pRange.rangeI lo (s - N + 2 - lo).toNat).filter fun x => decide ((((P_pair_by x).getD (0, 0)).2) = s)) by rw [hx]; simp)
      obtain ⟨hx1, hx2⟩ := hmem x hxm.1
      obtain ⟨a', p1', p2'⟩ := pair_ok (n := x) hx1 (by omega)
      have hx3 := hxm.2
      rw [p1'] at hx3
      simp at hx3
      rw [hx]
      have hix : pIx (x :: xs) 0 = some x := by simp [pIx, atI, ixN]
      rw [hix]
      simp -implicitDefEqProofs only [Option.bind_some, p1', Option.map_some]
      have := p2'.le
      exact ⟨a', rfl, ⟨x, a', hx1, p2', .inr ⟨rfl, by omega⟩⟩, by omega⟩
end K74

set_option Elab.async false
set_option linter.all false
set_option maxRecDepth 100000
set_option autoImplicit false
/-! law k74: who wins. -/
noncomputable section
namespace K74
open PySem PySem.Spec PyProof.Rows L2 DL
theorem disj {n m s t : Int} (hn : 0 ≤ n) (hm : 0 ≤ m) (h : IsA n s) (g : IsA m t) (e : s = t + m) : s = 0 := by
  have hl := g.le
  have hm' : m = s - t := by omega
  have e1 : gz t m = - gz s t := by subst hm'; unfold gz; grind
  have e2 : gz (t + 1) m = - gz (s + 1) (t + 1) := by subst hm'; unfold gz; grind
  have a1 := g.low; have a2 := g.up; have b1 := h.low; have b2 := h.up
  have hnt : n ≤ t := by
    by_cases c : n ≤ t
    · exact c
    · have := gz_anti (a := s + 1) (n := t + 1) (m := n) (by omega) (by omega) (by omega)
      omega
  have := gz_anti (a := s) (n := n) (m := t) (by omega) hn hnt
  by_cases c : 0 < t
  · have := gz_nz (x := s) (y := t) c (by omega)
    omega
  · omega
theorem IsA.inj {n m a : Int} (hn : 0 ≤ n) (hm : 0 ≤ m) (h : IsA n a) (g : IsA m a) : n = m := by
  by_cases c : n < m
  · have := h.mono hn g c; omega
  · by_cases d : m < n
    · have := g.mono hm h d; omega
    · omega
theorem mate_uniq {s x y : Int} (h : Pr s x) (g : Pr s y) : x = y := by
  obtain ⟨n, a, h1, h2, h3⟩ := h
  obtain ⟨m, b, g1, g2, g3⟩ := g
  have := h2.le; have := g2.le
  rcases h3 with ⟨h3, h4⟩ | ⟨h3, h4⟩ <;> rcases g3 with ⟨g3, g4⟩ | ⟨g3, g4⟩
  · have e : a = b := by omega
    subst e
    have := h2.inj h1 g1 g2
    omega
  · have := disj h1 g1 h2 g2 (by omega); omega
  · have := disj g1 h1 g2 h2 (by omega); omega
  · by_cases c : n < m
    · have := h2.mono h1 g2 c; omega
    · by_cases d : m < n
      · have := g2.mono g1 h2 d; omega
      · have e : n = m := by omega
        subst e
        have := h2.uniq h1 g2
        omega
theorem minI_eq (x y : Int) : minI x y = min x y := by unfold minI; split <;> omega
theorem maxI_eq (x y : Int) : maxI x y = max x y := by unfold maxI; split <;> omega
theorem is_pair_ok {x y : Int} (hx : 0 ≤ x) (hx2 : x ≤ 1000000000000) (hy : 0 ≤ y) (hy2 : y ≤ 1000000000000) : ∃ b, P_is_pair x y = some b ∧ (b = true ↔ Pr x y) := by
  obtain ⟨a, h1, h2⟩ := pair_ok (n := max x y - min x y) (by omega) (by omega)
  refine ⟨decide ((a, a + (max x y - min x y)) = (min x y, max x y)), ?_, ?_⟩
  · unfold P_is_pair
    simp -implicitDefEqProofs only [pB1, pB2, Option.bind_some, minI_eq, maxI_eq, h1]
  · rw [decide_eq_true_eq, Prod.mk.injEq]
    have := h2.le
    constructor
    · rintro ⟨c1, c2⟩
      refine ⟨max x y - min x y, a, by omega, h2, ?_⟩
      omega
    · rintro ⟨n, a', g1, g2, g3⟩
      have e : n = max x y - min x y := by have := g2.le; omega
      subst e
      have := g2.uniq g1 h2
      omega
theorem check_ok {x y k : Int} (hx : k ≤ x) (hx2 : x ≤ 1000000000000) (hy : k ≤ y) (hy2 : y ≤ 1000000000000) : P_check_two x y k = some () := by
  simp [P_check_two, P_is_between, P_is_integer, hx, hx2, hy, hy2]
theorem win_ok {x y : Int} (hx : 0 ≤ x) (hx2 : x ≤ 1000000000000) (hy : 0 ≤ y) (hy2 : y ≤ 1000000000000) : ∃ b, P_two_win x y = some (!b) ∧ (b = true ↔ Pr x y) := by
  obtain ⟨b, h1, h2⟩ := is_pair_ok hx hx2 hy hy2
  refine ⟨b, ?_, h2⟩
  unfold P_two_win
  simp -implicitDefEqProofs only [pB2, pB3, pNot, Option.bind_some, check_ok hx hx2 hy hy2, h1, Option.map_some]
theorem mem_insU (x z : Int × Int) : ∀ r : List (Int × Int), z ∈ insU x r ↔ z = x ∨ z ∈ r
  | [] => by simp [insU]
  | y :: r => by
    unfold insU
    split
    · rename_i e
      subst e
      simp
    · split
      · simp
      · rw [List.mem_cons, mem_insU x z r, List.mem_cons]
        exact or_left_comm
theorem mem_usP (z : Int × Int) : ∀ xs : List (Int × Int), z ∈ usP xs ↔ z ∈ xs
  | [] => by simp [usP]
  | x :: xs => by
    show z ∈ insU x (usP xs) ↔ _
    rw [mem_insU, mem_usP z xs, List.mem_cons]
theorem good_no {x y : Int} (hx : 0 ≤ x) (hx2 : x ≤ 1000000000000) (hy : 0 ≤ y) (hy2 : y ≤ 1000000000000) (h : Pr x y) : P_two_good x y = some [] := by
  obtain ⟨b, h1, h2⟩ := is_pair_ok hx hx2 hy hy2
  have hb := h2.mpr h
  subst hb
  unfold P_two_good
  simp -implicitDefEqProofs only [pB2, pB3, pIf, Option.bind_some, check_ok hx hx2 hy hy2, h1, if_true]
  rfl
theorem fit_of {α : Type} {xs : List α} (h : xs.length ≤ 16777216) : pFit xs = some xs := by
  unfold pFit okLen
  rw [if_pos (by simpa using h)]
theorem good_yes {x y : Int} (hx : 0 ≤ x) (hx2 : x ≤ 1000000000000) (hy : 0 ≤ y) (hy2 : y ≤ 1000000000000) (h : ¬ Pr x y) :
    ∃ mx my a d c, Pr x mx ∧ Pr my y ∧ 0 ≤ mx ∧ 0 ≤ my ∧ d = max x y - min x y ∧ IsA d a ∧ c = (if x < y then (a, a + d) else (a + d, a)) ∧
      P_two_good x y = some (usP ([(x, mx), (my, y), c].filter fun p => decide (p.1 ≤ x) && decide (p.2 ≤ y))) := by
  obtain ⟨b, h1, h2⟩ := is_pair_ok hx hx2 hy hy2
  have hb : b = false := by
    cases b with
    | false => rfl
    | true => exact absurd (h2.mp rfl) h
  subst hb
  obtain ⟨mx, m1, m2, m3⟩ := mate_ok hx hx2
  obtain ⟨my, n1, n2, n3⟩ := mate_ok hy hy2
  obtain ⟨d, hd⟩ : ∃ d, d = max x y - min x y := ⟨_, rfl⟩
  obtain ⟨a, p1, p2⟩ := pair_ok (n := d) (by omega) (by omega)
  have habs : absI (x - y) = d := by unfold absI; split <;> omega
  obtain ⟨c, hc⟩ : ∃ c, c = (if x < y then (a, a + d) else (a + d, a)) := ⟨_, rfl⟩
  have hle := p2.le
  have hc0 : 0 ≤ c.1 ∧ 0 ≤ c.2 := by rw [hc]; split <;> exact ⟨by simp only; omega, by simp only; omega⟩
  refine ⟨mx, my, a, d, c, m2, n2.symm, m3, n3, hd, p2, hc, ?_⟩
  have hcc : (pIf (pB2 (fun (a b : Int) => some (decide (a < b))) (some x) (some y)) (pB2 (fun (a b : Int) => some (a, b)) (some a) (some (a + d))) (pB2 (fun (a b : Int) => some (a, b)) (some (a + d)) (some a))) = some c := by
    rw [hc]
    by_cases q : x < y
    · simp [q]
    · simp [q]
  have hfil : pComp (fun (x6 : (Int × Int)) => (pAnd (pB2 (fun a b => some (decide (a ≤ b))) (Option.map Prod.fst (some x6)) (some x)) (pB2 (fun a b => some (decide (a ≤ b))) (Option.map Prod.snd (some x6)) (some y)))) (fun (x6 : (Int × Int)) => (some x6)) [(x, mx), (my, y), c] = some (([(x, mx), (my, y), c].filter fun p => decide (p.1 ≤ x) && decide (p.2 ≤ y)).map fun p => p) := by
    refine pComp_filter (fun p hp => ?_) (fun p hp _ => rfl)
    by_cases q : p.1 ≤ x
    · simp [q]
    · simp [q]
  have hset : pSetP ([(x, mx), (my, y), c].filter fun p => decide (p.1 ≤ x) && decide (p.2 ≤ y)) = some (usP ([(x, mx), (my, y), c].filter fun p => decide (p.1 ≤ x) && decide (p.2 ≤ y))) := by
    unfold pSetP
    rw [if_pos]
    rw [Bool.and_eq_true]
    refine ⟨?_, ?_⟩
    · have := List.length_filter_le (fun p : Int × Int => decide (p.1 ≤ x) && decide (p.2 ≤ y)) [(x, mx), (my, y), c]
      have h3 : ([(x, mx), (my, y), c] : List (Int × Int)).length = 3 := rfl
      rw [h3] at this
      exact Nat.ble_eq_true_of_le (by omega)
    · rw [List.all_eq_true]
      intro p hp
      have hp := (List.mem_filter.mp hp).1
      simp only [List.mem_cons, List.not_mem_nil, or_false] at hp
      rcases hp with rfl | rfl | rfl
      · simp [hx, m3]
      · simp [hy, n3]
      · simp [hc0.1, hc0.2]
  have hl3 : pFit ([(x, mx), (my, y)] : List (Int × Int)) = some [(x, mx), (my, y)] := fit_of (by show 2 ≤ _; decide)
  have hl4 : pFit ([(x, mx), (my, y)] ++ [c] : List (Int × Int)) = some [(x, mx), (my, y), c] := fit_of (by show 3 ≤ _; decide)
  have hl5 : pFit ([(x, mx), (my, y), c] : List (Int × Int)) = some [(x, mx), (my, y), c] := fit_of (by show 3 ≤ _; decide)
  simp -implicitDefEqProofs only [pB2, pIf, Option.bind_some] at hcc
  unfold P_two_good
  simp -implicitDefEqProofs only [pB2, pB3, pB1, pIf, Option.bind_some, check_ok hx hx2 hy hy2, h1, m1, n1, Bool.false_eq_true, if_false, hl3, habs, p1, hcc, hl4, hl5]
  simp -implicitDefEqProofs only [pB2, Option.bind_some] at hfil
  rw [hfil, List.map_id']
  simp -implicitDefEqProofs only [Option.bind_some, hset]
theorem good_mem {x y : Int} (hx : 0 ≤ x) (hx2 : x ≤ 1000000000000) (hy : 0 ≤ y) (hy2 : y ≤ 1000000000000) : ∃ l, P_two_good x y = some l ∧ ∀ p ∈ l, Pr p.1 p.2 ∧ 0 ≤ p.1 ∧ p.1 ≤ x ∧ 0 ≤ p.2 ∧ p.2 ≤ y := by
  by_cases h : Pr x y
  · exact ⟨[], good_no hx hx2 hy hy2 h, fun p hp => by cases hp⟩
  · obtain ⟨mx, my, a, d, c, g1, g2, g3, g4, g5, g6, g7, g8⟩ := good_yes hx hx2 hy hy2 h
    refine ⟨_, g8, fun p hp => ?_⟩
    rw [mem_usP, List.mem_filter] at hp
    obtain ⟨hp, hq⟩ := hp
    simp only [Bool.and_eq_true, decide_eq_true_eq] at hq
    simp only [List.mem_cons, List.not_mem_nil, or_false] at hp
    have hle := g6.le
    rcases hp with rfl | rfl | rfl
    · exact ⟨g1, hx, hq.1, g3, hq.2⟩
    · exact ⟨g2, g4, hq.1, hy, hq.2⟩
    · rw [g7] at hq ⊢
      split at hq
      · rw [if_pos (by assumption)]
        exact ⟨⟨d, a, by omega, g6, .inl ⟨rfl, rfl⟩⟩, by show 0 ≤ a; omega, hq.1, by show 0 ≤ a + d; omega, hq.2⟩
      · rw [if_neg (by assumption)]
        exact ⟨⟨d, a, by omega, g6, .inr ⟨rfl, rfl⟩⟩, by show 0 ≤ a + d; omega, hq.1, by show 0 ≤ a; omega, hq.2⟩
end K74

set_option Elab.async false
set_option linter.all false
set_option maxRecDepth 100000
set_option autoImplicit false
/-! law k74: Euclid's pairs. -/
noncomputable section
namespace K74
open PySem PySem.Spec PyProof.Rows L2 DL
instance wonDec (x y : Int) : Decidable (won x y) := inferInstanceAs (Decidable (0 < min x y ∧ (min x y = max x y ∨ 0 < gz (max x y) (min x y))))
theorem golden_ok {h l : Int} (h1 : -1000000 < h) (h2 : h < 100000000000000) (l1 : -1000000 < l) (l2 : l < 100000000000000) : P_is_golden h l = some (decide (0 < gz h l)) := by
  unfold P_is_golden
  simp -implicitDefEqProofs only [pB2, Option.bind_some, mul_l (a := h) (b := h) (by omega) (by omega), mul_l (a := h) (b := l) (by omega) (by omega), mul_l (a := l) (b := l) (by omega) (by omega)]
  rfl
theorem andor {a b c P : Prop} [Decidable a] [Decidable b] [Decidable c] [Decidable P] (h : P ↔ a ∧ (b ∨ c)) : (if decide a = true then if decide b = true then some true else some (decide c) else some false) = some (decide P) := by
  have e : decide P = decide (a ∧ (b ∨ c)) := decide_eq_decide.mpr h
  rw [e]
  by_cases c1 : a <;> by_cases c2 : b <;> simp [c1, c2]
theorem ewon_ok {x y : Int} (hx : 0 ≤ x) (hx2 : x < 100000000000000) (hy : 0 ≤ y) (hy2 : y < 100000000000000) : P_is_euclid_won x y = some (decide (won x y)) := by
  have hg := golden_ok (h := max x y) (l := min x y) (by omega) (by omega) (by omega) (by omega)
  unfold P_is_euclid_won
  simp -implicitDefEqProofs only [pB2, pAnd, pOr, Option.bind_some, minI_eq, maxI_eq, hg]
  exact andor Iff.rfl
theorem ewins_ok {x y : Int} (hx : 1 ≤ x) (hx2 : x ≤ 1000000000000) (hy : 1 ≤ y) (hy2 : y ≤ 1000000000000) : P_euclid_wins x y = some (decide (won x y)) := by
  unfold P_euclid_wins
  simp -implicitDefEqProofs only [pB2, pB3, Option.bind_some, check_ok hx hx2 hy hy2, ewon_ok (x := x) (y := y) (by omega) (by omega) (by omega) (by omega)]
theorem egood_ok {x y : Int} (hx : 1 ≤ x) (hx2 : x ≤ 1000000000000) (hy : 1 ≤ y) (hy2 : y ≤ 1000000000000) {m : Int} (hm : m = max x y / min x y) :
    P_euclid_good x y = some ((([m - 1, m].filter fun t => decide (0 < t))).filter fun t => !decide (won (min x y) (max x y - t * min x y))) := by
  obtain ⟨l, hl⟩ : ∃ l, l = min x y := ⟨_, rfl⟩
  obtain ⟨h, hh⟩ : ∃ h, h = max x y := ⟨_, rfl⟩
  rw [← hl, ← hh] at hm ⊢
  have hl1 : 1 ≤ l := by omega
  have hd : pDiv h l = some m := by rw [hm]; exact pDiv_of (by omega) (by omega)
  have hm1 : 1 ≤ m := by rw [hm]; exact Int.le_ediv_of_mul_le (by omega) (by omega)
  have hm2 : m * l ≤ h := by rw [hm]; exact Int.ediv_mul_le h (by omega)
  have hmh : m ≤ h := by
    have := Int.mul_le_mul_of_nonneg_left (a := 1) (b := l) (c := m) hl1 (by omega)
    omega
  have hf1 : pFit ([m - 1, m] : List Int) = some [m - 1, m] := fit_of (by show 2 ≤ _; decide)
  have hc1 : pComp (fun (x4 : Int) => (some (decide ((0 : Int) < x4)))) (fun (x4 : Int) => (some x4)) [m - 1, m] = some (([m - 1, m].filter fun t => decide (0 < t)).map fun t => t) := pComp_filter (fun _ _ => rfl) (fun _ _ _ => rfl)
  rw [List.map_id'] at hc1
  have hlen : ([m - 1, m].filter fun t => decide (0 < t)).length ≤ 2 := List.length_filter_le _ _
  have hf2 : pFit ([m - 1, m].filter fun t => decide (0 < t)) = some ([m - 1, m].filter fun t => decide (0 < t)) := fit_of (by omega)
  have hc2 : pComp (fun (x6 : Int) => (Option.map (fun c => !c) (((pMul x6 l).bind fun b => some (h - b)).bind fun b => P_is_euclid_won l b))) (fun (x6 : Int) => (some x6)) ([m - 1, m].filter fun t => decide (0 < t)) = some ((([m - 1, m].filter fun t => decide (0 < t)).filter fun t => !decide (won l (h - t * l))).map fun t => t) := by
    refine pComp_filter (fun t ht => ?_) (fun _ _ _ => rfl)
    obtain ⟨ht1, ht2⟩ := List.mem_filter.mp ht
    have ht3 : 0 < t := by simpa using ht2
    have ht4 : t = m - 1 ∨ t = m := by simpa using ht1
    have htm : t * l ≤ m * l := Int.mul_le_mul_of_nonneg_right (by omega) (by omega)
    have ht0 : 0 ≤ t * l := Int.mul_nonneg (by omega) (by omega)
    rw [mul_l (a := t) (b := l) (by omega) (by omega), Option.bind_some, Option.bind_some, ewon_ok (by omega) (by omega) (by omega) (by omega)]
    rfl
  rw [List.map_id'] at hc2
  unfold P_euclid_good
  simp -implicitDefEqProofs only [pB2, pB3, pB1, pNot, Option.bind_some, check_ok hx hx2 hy hy2, minI_eq, maxI_eq, ← hl, ← hh, hd, hf1, hc1, hf2, hc2]
theorem egood_won {x y : Int} (hx : 1 ≤ x) (hy : 1 ≤ y) {m : Int} (hm : m = max x y / min x y) :
    (([m - 1, m].filter fun t => decide (0 < t)).filter fun t => !decide (won (min x y) (max x y - t * min x y))) = [] ↔ ¬ won x y := by
  obtain ⟨l, hl⟩ : ∃ l, l = min x y := ⟨_, rfl⟩
  obtain ⟨h, hh⟩ : ∃ h, h = max x y := ⟨_, rfl⟩
  have hw : won x y ↔ won l h := by
    rcases Int.le_total x y with c | c
    · rw [hl, hh, show min x y = x by omega, show max x y = y by omega]
    · rw [hl, hh, show min x y = y by omega, show max x y = x by omega, won_comm]
  rw [← hl, ← hh] at hm ⊢
  rw [hw]
  obtain ⟨r, hr⟩ : ∃ r, r = h % l := ⟨_, rfl⟩
  have hl1 : 1 ≤ l := by omega
  have e : h = m * l + r := by rw [hm, hr, Int.mul_comm]; exact (Int.mul_ediv_add_emod h l).symm
  have hr1 : 0 ≤ r := by rw [hr]; exact Int.emod_nonneg _ (by omega)
  have hr2 : r < l := by rw [hr]; exact Int.emod_lt_of_pos _ (by omega)
  have hm1 : 1 ≤ m := by rw [hm]; exact Int.le_ediv_of_mul_le (by omega) (by omega)
  have t1 : h - m * l = r := by omega
  have t2 : h - (m - 1) * l = r + l := by rw [Int.sub_mul]; omega
  rw [List.filter_eq_nil_iff]
  constructor
  · intro hall hwon
    rcases eu_yes (by omega) (by omega) e hr1 hr2 hwon with c | ⟨c1, c2⟩
    · refine hall m ?_ ?_
      · exact List.mem_filter.mpr ⟨by simp, by simp; omega⟩
      · rw [t1]; simp [c]
    · refine hall (m - 1) ?_ ?_
      · exact List.mem_filter.mpr ⟨by simp, by simp; omega⟩
      · rw [t2]; simp [c2]
  · intro hn t ht
    obtain ⟨c1, c2⟩ := eu_no (by omega) (by omega) e hr1 hr2 hn
    obtain ⟨ht1, ht2⟩ := List.mem_filter.mp ht
    have ht3 : 0 < t := by simpa using ht2
    have ht4 : t = m - 1 ∨ t = m := by simpa using ht1
    have ht5 : t = m := by omega
    subst ht5
    rw [t1]
    simp [c2]
end K74

set_option Elab.async false
set_option linter.all false
set_option maxRecDepth 100000
set_option autoImplicit false
/-! law k74: a great round. -/
noncomputable section
namespace K74
open PySem PySem.Spec PyProof.Rows L2 DL
theorem p9 : pB2 pPow (some (10 : Int)) (some (9 : Int)) = some 1000000000 := by decide +kernel
theorem p6 : pB2 pPow (some (10 : Int)) (some (6 : Int)) = some 1000000 := by decide +kernel
theorem p12 : pB2 pPow (some (10 : Int)) (some (12 : Int)) = some 1000000000000 := by decide +kernel
theorem law_ab {n a : Int} (hn : 0 ≤ n) (h : IsA n a) : (2 * a - n) * (2 * a - n) ≤ 5 * n * n ∧ 5 * n * n < (2 * a + 2 - n) * (2 * a + 2 - n) := by
  have e1 : 4 * gz a n = (2 * a - n) * (2 * a - n) - 5 * n * n := by unfold gz; grind
  have e2 : 4 * gz (a + 1) n = (2 * a + 2 - n) * (2 * a + 2 - n) - 5 * n * n := by unfold gz; grind
  have := h.low; have := h.up
  omega
theorem not_pr1 {n a m : Int} (hn : 0 ≤ n) (h : IsA n a) (hm : 0 < m) : ¬ Pr a (a + n + m) := fun z => by
  have := mate_uniq z (show Pr a (a + n) from ⟨n, a, hn, h, .inl ⟨rfl, rfl⟩⟩)
  omega
theorem not_pr2 {n a m : Int} (hn : 0 ≤ n) (h : IsA n a) (hm : 0 < m) : ¬ Pr (a + m) (a + n + m) := fun z => by
  obtain ⟨k, b, h1, h2, h3⟩ := z
  have e : k = n := by omega
  subst e
  have := h.uniq h1 h2
  omega
theorem pr_self {n a : Int} (hn : 0 ≤ n) (h : IsA n a) : Pr a (a + n) := ⟨n, a, hn, h, .inl ⟨rfl, rfl⟩⟩
theorem in1 {n a m : Int} (hn : 0 ≤ n) (hn2 : n ≤ 1000000000) (h : IsA n a) (hm : 0 < m) (hm2 : m ≤ 1000000) : ∃ l, P_two_good a (a + n + m) = some l ∧ (a, a + n) ∈ l := by
  have hle := h.le; have hl2 := h.le2 hn
  obtain ⟨mx, my, a', d, c, g1, g2, g3, g4, g5, g6, g7, g8⟩ := good_yes (x := a) (y := a + n + m) (by omega) (by omega) (by omega) (by omega) (not_pr1 hn h hm)
  have e := mate_uniq g1 (pr_self hn h)
  subst e
  refine ⟨_, g8, ?_⟩
  rw [mem_usP, List.mem_filter]
  exact ⟨by simp, by simp; omega⟩
theorem in2 {n a m : Int} (hn : 0 ≤ n) (hn2 : n ≤ 1000000000) (h : IsA n a) (hm : 0 < m) (hm2 : m ≤ 1000000) : ∃ l, P_two_good (a + m) (a + n + m) = some l ∧ (a, a + n) ∈ l := by
  have hle := h.le; have hl2 := h.le2 hn
  obtain ⟨mx, my, a', d, c, g1, g2, g3, g4, g5, g6, g7, g8⟩ := good_yes (x := a + m) (y := a + n + m) (by omega) (by omega) (by omega) (by omega) (not_pr2 hn h hm)
  have e : d = n := by omega
  subst e
  have e := g6.uniq hn h
  subst e
  have hc : c = (a', a' + d) := by
    rw [g7]
    split
    · rfl
    · have : d = 0 := by omega
      subst this
      simp
  refine ⟨_, g8, ?_⟩
  rw [mem_usP, List.mem_filter, hc]
  exact ⟨by simp, by simp; omega⟩
theorem mm {a b : Int} (h1 : -1000000000000000000 < a) (h2 : a < 1000000000000000000) : pB2 pMul (some a) (some b) = some (a * b) := mul_l h1 h2
theorem win_no {x y : Int} (hx : 0 ≤ x) (hx2 : x ≤ 1000000000000) (hy : 0 ≤ y) (hy2 : y ≤ 1000000000000) (h : Pr x y) : pB2 P_two_win (some x) (some y) = some false := by
  obtain ⟨b, h1, h2⟩ := win_ok hx hx2 hy hy2
  have := h2.mpr h
  subst this
  exact h1
theorem win_yes {x y : Int} (hx : 0 ≤ x) (hx2 : x ≤ 1000000000000) (hy : 0 ≤ y) (hy2 : y ≤ 1000000000000) (h : ¬ Pr x y) : pB2 P_two_win (some x) (some y) = some true := by
  obtain ⟨b, h1, h2⟩ := win_ok hx hx2 hy hy2
  cases b with
  | true => exact absurd (h2.mp rfl) h
  | false => exact h1
theorem pB2_s {α β γ : Type} (f : α → β → Option γ) (a : α) (b : β) : pB2 f (some a) (some b) = f a b := rfl
theorem ne_ff {α : Type} [DecidableEq α] (a : α) : pB2 (fun (a b : α) => some (!decide (a = b))) (some a) (some a) = some false := by simp [pB2]
theorem great_ok (k : Int) (hk : k + 4 ≤ 1000000) : D_law_are_great_right (k, ()) fun b s => b = true ∧ s.1 ≤ k + 4 := by
  unfold D_law_are_great_right
  dsimp only [dBind, dOpt, dIf, dMap, dSeqF]
  rw [p9, p6, p12]
  refine ⟨1000000001, rfl, by decide, by decide, by show k < _; omega, fun n hn hn2 => ?_⟩
  refine ⟨n, rfl, ?_⟩
  obtain ⟨a, ha, hA⟩ := pair_ok (n := n) hn (by omega)
  have hle := hA.le; have hl2 := hA.le2 hn
  have hw : pB1 P_wythoff (some n) = some (a, a + n) := by
    rw [pB1_s]
    unfold P_wythoff
    have hb : pB3 P_is_between (some n) (some (0 : Int)) (some (1000000000 : Int)) = some true := by
      simp [P_is_between, P_is_integer, hn]
      omega
    rw [hb]
    simp -implicitDefEqProofs only [pNot, pIf, Option.map_some, Option.bind_some, Bool.not_true, Bool.false_eq_true, if_false, pB1_s, ha]
  refine ⟨_, hw, ?_⟩
  refine ⟨(2 * a - n, 2 * a + 2 - n), ?_, ?_⟩
  · simp only [pB2, Option.bind_some, mul_l (a := 2) (b := a) (by omega) (by omega)]
  have hab := law_ab hn hA
  refine ⟨false, ?_, ?_⟩
  · simp only [pB2, Option.bind_some]
    have : a + n - a = n := by omega
    simp [this]
  refine ⟨false, ?_, ?_⟩
  · rw [m5 hn (by omega), show pB2 pMul (some (2 * a - n, 2 * a + 2 - n).1) (some (2 * a - n, 2 * a + 2 - n).1) = some ((2 * a - n) * (2 * a - n)) from mm (by omega) (by omega), pB2_s]
    rw [decide_eq_false (by omega)]
  refine ⟨false, ?_, ?_⟩
  · rw [m5 hn (by omega), show pB2 pMul (some (2 * a - n, 2 * a + 2 - n).2) (some (2 * a - n, 2 * a + 2 - n).2) = some ((2 * a + 2 - n) * (2 * a + 2 - n)) from mm (by omega) (by omega), pB2_s]
    rw [decide_eq_false (by omega)]
  have hp1 := pr_self hn hA
  refine ⟨false, ?_, ?_⟩
  · rw [win_no (by show 0 ≤ a; omega) (by show a ≤ _; omega) (by show 0 ≤ a + n; omega) (by show a + n ≤ _; omega) hp1]
    exact ne_ff false
  refine ⟨false, ?_, ?_⟩
  · rw [win_no (by show 0 ≤ a + n; omega) (by show a + n ≤ _; omega) (by show 0 ≤ a; omega) (by show a ≤ _; omega) hp1.symm]
    exact ne_ff false
  refine ⟨false, ?_, ?_⟩
  · have hg := good_no (x := a + n) (y := a) (by omega) (by omega) (by omega) (by omega) hp1.symm
    rw [pB2_s P_two_good, hg]
    rfl
  refine ⟨1, rfl, 1000000, rfl, by decide, by decide, by show k + 1 < _; omega, fun d hd0 hd1 => ?_⟩
  refine ⟨_, rfl, _, rfl, ?_⟩
  obtain ⟨m, hm⟩ : ∃ m, m = 1 + d := ⟨_, rfl⟩
  rw [← hm]
  have hm0 : 0 < m := by omega
  have hm1 : m ≤ 1000000 := by omega
  have e1 : pB2 (fun (a b : Int) => some (a + b)) (some (a + n)) (some m) = some (a + n + m) := rfl
  have e2 : pB2 (fun (a b : Int) => some (a + b)) (some a) (some m) = some (a + m) := rfl
  refine ⟨false, ?_, ?_⟩
  · rw [e1, win_yes (by show 0 ≤ a; omega) (by show a ≤ _; omega) (by omega) (by omega) (not_pr1 hn hA hm0)]
    exact ne_ff true
  refine ⟨false, ?_, ?_⟩
  · obtain ⟨l, g1, g2⟩ := in1 hn (by omega) hA hm0 hm1
    rw [e1, pB2_s P_two_good, g1, pB2_s (fun (a b : Int) => some (a, b)), pB2_s, decide_eq_true g2]
    rfl
  refine ⟨false, ?_, ?_⟩
  · obtain ⟨l, g1, g2⟩ := in2 hn (by omega) hA hm0 hm1
    rw [e1, e2, pB2_s P_two_good, g1, pB2_s (fun (a b : Int) => some (a, b)), pB2_s, decide_eq_true g2]
    rfl
  obtain ⟨l, g1, g2⟩ := good_mem (x := a + n + m) (y := a) (by omega) (by omega) (by omega) (by omega)
  refine ⟨l, ?_, dForR_unit (fun p hp Q hq => ?_) ?_⟩
  · rw [e1, pB2_s P_two_good]
    exact g1
  · obtain ⟨q1, q2, q3, q4, q5⟩ := g2 p hp
    refine ⟨false, ?_, ?_⟩
    · rw [win_no q2 (by omega) q4 (by omega) q1]
      exact ne_ff false
    · exact ⟨(), rfl, hq⟩
  refine ⟨1, rfl, 1000000000000, rfl, by decide, by decide, by show k + 1 + 1 < _; omega, fun c hc0 hc1 => ?_⟩
  refine ⟨_, rfl, _, rfl, ?_⟩
  refine ⟨1, rfl, 1000000000000, rfl, by decide, by decide, by show k + 1 + 1 + 1 < _; omega, fun c' hc0' hc1' => ?_⟩
  refine ⟨_, rfl, _, rfl, _, rfl, ?_⟩
  obtain ⟨x, hx⟩ : ∃ x, x = 1 + c := ⟨_, rfl⟩
  obtain ⟨y, hy⟩ : ∃ y, y = 1 + c' := ⟨_, rfl⟩
  rw [← hx, ← hy]
  refine ⟨(min x y, max x y), ?_, ?_⟩
  · simp only [pB2, Option.bind_some, minI_eq, maxI_eq]
  have hgz := won_law (s := min x y) (g := max x y)
  have e5 : 5 * min x y * min x y = 5 * (min x y * min x y) := by grind
  have hpw : pB2 pPow (pB2 (fun (a b : Int) => some (a - b)) (pB2 pMul (some (2 : Int)) (some (max x y))) (some (min x y))) (some (2 : Int)) = some ((2 * max x y - min x y) * (2 * max x y - min x y)) := by
    rw [mm (a := 2) (by omega) (by omega), pB2_s, pB2_s]
    unfold pPow
    rw [if_pos (decide_eq_true ⟨by omega, by omega, by omega⟩)]
    have : (2 : Int).toNat = 2 := rfl
    rw [this, Int.pow_succ, Int.pow_succ, Int.pow_zero, Int.one_mul]
  refine ⟨decide (won x y), ?_, ?_⟩
  · rw [hpw, m5 (by omega) (by omega), pB2_s, pB2_s]
    simp only [pOr, pIf, Option.bind_some]
    by_cases c1 : min x y = max x y
    · have hw : won x y := by unfold won; omega
      rw [decide_eq_true c1, decide_eq_true hw]
      rfl
    · have hw : won x y ↔ 5 * min x y * min x y < (2 * max x y - min x y) * (2 * max x y - min x y) := by
        unfold won
        rw [hgz, e5]
        constructor
        · rintro ⟨_, z | z⟩
          · exact absurd z c1
          · exact z
        · exact fun z => ⟨by omega, .inr z⟩
      rw [decide_eq_false c1]
      simp only [Bool.false_eq_true, if_false]
      exact congrArg some (decide_eq_decide.mpr hw.symm)
  have hew := ewins_ok (x := x) (y := y) (by omega) (by omega) (by omega) (by omega)
  obtain ⟨m', hm'⟩ : ∃ m', m' = max x y / min x y := ⟨_, rfl⟩
  have heg := egood_ok (x := x) (y := y) (by omega) (by omega) (by omega) (by omega) hm'
  have hnil := egood_won (x := x) (y := y) (by omega) (by omega) hm'
  obtain ⟨G, hG⟩ : ∃ G, G = ((([m' - 1, m'].filter fun t => decide (0 < t))).filter fun t => !decide (won (min x y) (max x y - t * min x y))) := ⟨_, rfl⟩
  rw [← hG] at heg hnil
  refine ⟨false, ?_, ?_⟩
  · rw [pB2_s P_euclid_wins, hew]
    exact ne_ff _
  refine ⟨false, ?_, ?_⟩
  · have hfn : pB1 pFit (some ([] : List Int)) = some [] := rfl
    rw [pB2_s P_euclid_good, heg, hfn, pB2_s]
    by_cases c1 : G = []
    · have := hnil.mp c1
      rw [decide_eq_true c1, decide_eq_false this]
      rfl
    · have : won x y := by
        by_cases c2 : won x y
        · exact c2
        · exact absurd (hnil.mpr c2) c1
      rw [decide_eq_false c1, decide_eq_true this]
      rfl
  refine ⟨G, ?_, dForR_unit (fun t ht Q hq => ?_) ?_⟩
  · rw [pB2_s P_euclid_good]
    exact heg
  · rw [hG] at ht
    obtain ⟨ht1, ht2⟩ := List.mem_filter.mp ht
    obtain ⟨ht3, ht4⟩ := List.mem_filter.mp ht1
    have ht5 : 0 < t := by simpa using ht4
    have ht6 : t = m' - 1 ∨ t = m' := by simpa using ht3
    have ht7 : ¬ won (min x y) (max x y - t * min x y) := by simpa using ht2
    have hmm : m' * min x y ≤ max x y := by rw [hm']; exact Int.ediv_mul_le _ (by omega)
    have htm : t * min x y ≤ m' * min x y := Int.mul_le_mul_of_nonneg_right (by omega) (by omega)
    have ht0 : 0 ≤ t * min x y := Int.mul_nonneg (by omega) (by omega)
    have htx : t ≤ t * min x y := by
      have := Int.mul_le_mul_of_nonneg_left (a := 1) (b := min x y) (c := t) (by omega) (by omega)
      omega
    refine ⟨max x y - t * min x y, ?_, ?_⟩
    · rw [mm (a := t) (by omega) (by omega)]
      rfl
    refine ⟨false, ?_, ?_⟩
    · rw [pB2_s, decide_eq_false (by omega)]
    by_cases c1 : 0 < max x y - t * min x y
    · refine ⟨true, ?_, ?_⟩
      · rw [pB2_s, decide_eq_true c1]
      refine ⟨false, ?_, ?_⟩
      · rw [pB2_s P_euclid_wins, ewins_ok (by omega) (by omega) (by omega) (by omega), decide_eq_false ht7]
        exact ne_ff false
      · exact ⟨(), rfl, hq⟩
    · refine ⟨false, ?_, ?_⟩
      · rw [pB2_s, decide_eq_false c1]
      exact ⟨false, rfl, ⟨(), rfl, hq⟩⟩
  exact ⟨true, rfl, rfl, by show k + 1 + 1 + 1 + 1 ≤ k + 4; omega⟩
end K74

set_option Elab.async false
set_option linter.all false
set_option maxRecDepth 100000
set_option autoImplicit false
/-! law k74: the first sixty pairs. -/
noncomputable section
namespace K74
open PySem PySem.Spec PyProof.Rows L2 DL
set_option maxHeartbeats 0
theorem pairs_ok : P_law_are_pairs_right = some true := by decide +kernel
end K74

set_option Elab.async false
set_option linter.all false
set_option maxRecDepth 100000
set_option autoImplicit false
/-! law k74: the law's own way with Euclid's pairs, a dict that is handed on. -/
noncomputable section
namespace K74
open PySem PySem.Spec PyProof.Rows L2 DL
def Wn (x y : Int) : Bool := decide (won x y)
def Pre (x y : Int) : Prop := 0 ≤ x ∧ x ≤ 60 ∧ 0 ≤ y ∧ y ≤ 60
def KnE (kv : List Key × D) : Prop := ∃ l h : Nat, kv.1 = [.inl (l : Int), .inl (h : Int)] ∧ l ≤ h ∧ h ≤ 60 ∧ kv.2 = .bool (Wn (l : Int) (h : Int))
def Kn (o : O) : Prop := ∃ kvs : List (List Key × D), o = .dT kvs ∧ (kvs.map (·.1)).Nodup ∧ ∀ kv ∈ kvs, KnE kv
def code : List Key → Nat
  | [.inl s, .inl c] => s.toNat * 61 + c.toNat
  | _ => 0
theorem Kn.small {kvs : List (List Key × D)} (h1 : (kvs.map (·.1)).Nodup) (h2 : ∀ kv ∈ kvs, KnE kv) : kvs.length ≤ 3721 := by
  have h := nodup_le 3721 (kvs.map fun kv => code kv.1) (by
    unfold List.Nodup at h1 ⊢
    rw [List.pairwise_map] at h1 ⊢
    refine h1.imp_of_mem fun {a b} ha hb ne e => ne ?_
    obtain ⟨s, c, e1, c1, c2, _⟩ := h2 a ha
    obtain ⟨s', c', e2, d1, d2, _⟩ := h2 b hb
    rw [e1, e2] at e ⊢
    simp only [code, Int.toNat_natCast] at e
    have : s = s' ∧ c = c' := by omega
    rw [this.1, this.2]) (fun x hx => by
    obtain ⟨kv, hkv, rfl⟩ := List.mem_map.mp hx
    obtain ⟨s, c, e1, c1, c2, _⟩ := h2 kv hkv
    rw [e1]
    simp only [code, Int.toNat_natCast]
    omega)
  simpa using h
theorem valD_mem {kvs : List (List Key × D)} {k : List Key} {d : D} (h : valD kvs k = some d) : (k, d) ∈ kvs := by
  unfold valD at h
  rw [Option.map_eq_some_iff] at h
  obtain ⟨kv, h1, h2⟩ := h
  have h3 := List.find?_some h1
  have h4 := List.mem_of_find?_eq_some h1
  simp at h3
  rw [← h3, ← h2]
  exact h4
theorem valD_none {kvs : List (List Key × D)} {k : List Key} (h : valD kvs k = none) : k ∉ kvs.map (·.1) := by
  unfold valD at h
  rw [Option.map_eq_none_iff, List.find?_eq_none] at h
  intro hm
  obtain ⟨kv, h1, h2⟩ := List.mem_map.mp hm
  have := h kv h1
  simp [h2] at this
theorem Kn.put {kvs : List (List Key × D)} (h1 : (kvs.map (·.1)).Nodup) (h2 : ∀ kv ∈ kvs, KnE kv) {s c : Nat} (c2 : s ≤ c) (c3 : c ≤ 60) {d : D} (hd : d = .bool (Wn (s : Int) (c : Int))) :
    Kn (.dT (putD kvs [.inl (s : Int), .inl (c : Int)] d)) ∧ valD (putD kvs [.inl (s : Int), .inl (c : Int)] d) [.inl (s : Int), .inl (c : Int)] = some d := by
  cases e : valD kvs [.inl (s : Int), .inl (c : Int)] with
  | none =>
    have hn := valD_none e
    have ep : putD kvs [.inl (s : Int), .inl (c : Int)] d = kvs ++ [([.inl (s : Int), .inl (c : Int)], d)] := by simp [putD, e]
    rw [ep]
    refine ⟨⟨_, rfl, ?_, ?_⟩, ?_⟩
    · rw [List.map_append, List.nodup_append]
      refine ⟨h1, by simp, ?_⟩
      intro a ha b hb
      simp at hb
      subst hb
      exact fun z => hn (z ▸ ha)
    · intro kv hkv
      rcases List.mem_append.mp hkv with h | h
      · exact h2 kv h
      · simp at h
        subst h
        exact ⟨s, c, rfl, c2, c3, hd⟩
    · unfold valD at e ⊢
      rw [Option.map_eq_none_iff] at e
      rw [List.find?_append, e]
      simp
  | some d' =>
    have hm := valD_mem e
    obtain ⟨s', c', e1, _, _, e2⟩ := h2 _ hm
    simp at e1
    have : d' = d := by
      obtain ⟨a, b⟩ := e1
      simp only at e2
      have a' : s = s' := by omega
      have b' : c = c' := by omega
      rw [e2, hd, a', b']
    subst this
    have ep : putD kvs [.inl (s : Int), .inl (c : Int)] d' = kvs := by
      simp only [putD, e, Option.isSome_some, if_true]
      conv => rhs; rw [← List.map_id kvs]
      apply List.map_congr_left
      intro kv hkv
      by_cases g : kv.1 = [.inl (s : Int), .inl (c : Int)]
      · rw [if_pos g]
        obtain ⟨s2, c2', f1, _, _, f2⟩ := h2 kv hkv
        rw [g] at f1
        simp at f1
        have a' : s = s2 := by omega
        have b' : c = c2' := by omega
        have : kv.2 = d' := by rw [f2, hd, a', b']
        rw [← this]
        rfl
      · rw [if_neg g]
        rfl
    rw [ep]
    exact ⟨⟨_, rfl, h1, h2⟩, e⟩
theorem look_key {S : Sto} {n : Nat} {kvs : List (List Key × D)} (h : S[n]? = some (.dT kvs)) (s c : Int) : lookD S (.loc n) (.d (.tuple [.int s, .int c])) = some (valD kvs [.inl s, .inl c]) := by
  simp [lookD, h, keyT, keysD, DL.keyD]
theorem W_any {l h q : Nat} (h0 : 1 ≤ l) (hl : l ≤ h) (hq : q = h / l) : ((List.range q).any fun i => !Wn (l : Int) ((h - (1 + i) * l : Nat) : Int)) = Wn (l : Int) (h : Int) := by
  have e : h = q * l + h % l := by rw [hq, Nat.mul_comm]; exact (Nat.div_add_mod h l).symm
  have hr : h % l < l := Nat.mod_lt _ h0
  have hq1 : 1 ≤ q := by rw [hq]; exact (Nat.le_div_iff_mul_le h0).mpr (by omega)
  have ei : (h : Int) = (q : Int) * (l : Int) + ((h % l : Nat) : Int) := by
    conv => lhs; rw [e]
    simp
  by_cases hw : won (l : Int) (h : Int)
  · have hW : Wn (l : Int) (h : Int) = true := decide_eq_true hw
    rw [hW, List.any_eq_true]
    rcases eu_yes (l := (l : Int)) (h := (h : Int)) (m := (q : Int)) (r := ((h % l : Nat) : Int)) (by omega) (by omega) ei (by omega) (by omega) hw with c | ⟨c1, c2⟩
    · refine ⟨q - 1, List.mem_range.mpr (by omega), ?_⟩
      have : (h - (1 + (q - 1)) * l : Nat) = h % l := by
        rw [show 1 + (q - 1) = q by omega]
        omega
      rw [this]
      unfold Wn
      rw [decide_eq_false c]
      rfl
    · refine ⟨q - 2, List.mem_range.mpr (by omega), ?_⟩
      have : (h - (1 + (q - 2)) * l : Nat) = h % l + l := by
        rw [show 1 + (q - 2) = q - 1 by omega, Nat.sub_mul]
        have : l ≤ q * l := Nat.le_mul_of_pos_left l (by omega)
        omega
      rw [this]
      unfold Wn
      have c2' : ¬ won (l : Int) ((h % l + l : Nat) : Int) := by
        rw [show ((h % l + l : Nat) : Int) = ((h % l : Nat) : Int) + (l : Int) by omega]
        exact c2
      rw [decide_eq_false c2']
      rfl
  · have hW : Wn (l : Int) (h : Int) = false := decide_eq_false hw
    rw [hW, List.any_eq_false]
    intro i hi
    obtain ⟨c1, c2⟩ := eu_no (l := (l : Int)) (h := (h : Int)) (m := (q : Int)) (r := ((h % l : Nat) : Int)) (by omega) (by omega) ei (by omega) (by omega) hw
    have hi' := List.mem_range.mp hi
    have : i = 0 := by omega
    subst this
    have e2 : (h - (1 + 0) * l : Nat) = h % l := by
      have : q = 1 := by omega
      rw [this] at e
      omega
    rw [e2]
    unfold Wn
    rw [decide_eq_true c2]
    simp
def mu (x y : Nat) : Nat := if min x y = 0 then max x y else max x y + 1
theorem euclid_ok : ∀ (fuel x y n : Nat) (S : Sto) (o : O), S[n]? = some o → Kn o → x ≤ 60 → y ≤ 60 → mu x y < fuel →
    ∃ o', F_law_euclid fuel [.d (.int x), .d (.int y), .loc n] S = some (.d (.bool (Wn (x : Int) (y : Int))), S.set n o') ∧ Kn o' := by
  intro fuel
  induction fuel with
  | zero => intro x y n S o _ _ _ _ h; omega
  | succ fuel ih =>
    intro x y n S o hn hk hx hy hmu
    obtain ⟨l, hl⟩ : ∃ l, l = min x y := ⟨_, rfl⟩
    obtain ⟨h, hh⟩ : ∃ h, h = max x y := ⟨_, rfl⟩
    have hmin : minI (x : Int) (y : Int) = (l : Int) := by rw [minI_eq]; omega
    have hmax : maxI (x : Int) (y : Int) = (h : Int) := by rw [maxI_eq]; omega
    have hlh : l ≤ h := by omega
    have hh60 : h ≤ 60 := by omega
    have hWs : Wn (x : Int) (y : Int) = Wn (l : Int) (h : Int) := by
      unfold Wn
      refine decide_eq_decide.mpr ?_
      rcases Nat.le_total x y with c | c
      · rw [show l = x by omega, show h = y by omega]
      · rw [show l = y by omega, show h = x by omega, won_comm]
    rw [hWs]
    have hf2 : fits 2 = true := rfl
    have hlt : n < S.length := (List.getElem?_eq_some_iff.mp hn).1
    have hset : ∀ o : O, (S.set n o)[n]? = some o := fun o => by simp [hlt]
    show ∃ o', fnD 8 (b_law_euclid (F_law_euclid fuel)) [.d (.int x), .d (.int y), .loc n] S = _ ∧ _
    by_cases h0 : l = 0
    · have hW : Wn (l : Int) (h : Int) = false := by
        unfold Wn won
        exact decide_eq_false (by omega)
      have hz : (l : Int) = 0 := by omega
      refine ⟨o, ?_, hk⟩
      rw [set_same hn, hW]
      simp [fnD, b_law_euclid, s_law_euclid_0, s_law_euclid_1, hmin, hmax, hz, hf2]
    · have hz : ¬ (l : Int) = 0 := by omega
      obtain ⟨kvs, rfl, k1, k2⟩ := hk
      have hlook := look_key hn (l : Int) (h : Int)
      cases e : valD kvs [.inl (l : Int), .inl (h : Int)] with
      | some d =>
        rw [e] at hlook
        obtain ⟨s', c', e1, _, _, e2⟩ := k2 _ (valD_mem e)
        simp at e1
        have hd : d = .bool (Wn (l : Int) (h : Int)) := by
          have a' : l = s' := by omega
          have b' : h = c' := by omega
          simp only at e2
          rw [e2, a', b']
        refine ⟨.dT kvs, ?_, kvs, rfl, k1, k2⟩
        rw [set_same hn]
        simp [fnD, b_law_euclid, s_law_euclid_0, s_law_euclid_1, s_law_euclid_4, s_law_euclid_5, hmin, hmax, hz, h0, hf2, vNotIn, vHas, hlook, vDGet, hd]
      | none =>
        rw [e] at hlook
        obtain ⟨q, hq⟩ : ∃ q, q = h / l := ⟨_, rfl⟩
        have hqh : q ≤ h := by rw [hq]; exact Nat.div_le_self h l
        have hqi : (h : Int) / (l : Int) = (q : Int) := by rw [hq]; simp
        have r1 : big62 1 = true := big62_of (by decide) (by decide)
        have r2 : big62 ((q : Int) + 1) = true := big62_of (by omega) (by omega)
        have dv : divOk (l : Int) = true := divOk_of (by omega) (by omega)
        have hle : ∀ i, i < q → (1 + i) * l ≤ h := fun i hi => by
          have := Nat.mul_le_mul_right l (show 1 + i ≤ q by omega)
          have h2 : q * l ≤ h := by rw [hq]; exact Nat.div_mul_le_self h l
          omega
        have e0 : rangeD 1 q = (List.range q).map fun (i : Nat) => PyData.int (1 + (i : Int)) := rangeD_eq q 1
        have tn : ((q : Int) + 1 - 1).toNat = q := by omega
        have q1 : ∀ a b c d e f : Option DL.W, compM (gN 6) mYes (mBin vSub (mVar 4) (mBin vMul (mVar 6) (mVar 3))) (rangeD 1 q) [a, b, c, some (.d (.int l)), some (.d (.int h)), e, none, f] S [] = some ((List.range q).map fun i => PyData.int ((h - (1 + i) * l : Nat) : Int), S) := fun a b c d e f => by
          rw [e0]
          refine compM_mapE0 _ _ _ (by simp; omega) fun i hi => ⟨_, rfl, ?_⟩
          have hi := List.mem_range.mp hi
          have m1 : mulOk (1 + (i : Int)) (l : Int) = true := mulOk_l (by omega) (by omega)
          have t : (h : Int) - (1 + (i : Int)) * (l : Int) = ((h - (1 + i) * l : Nat) : Int) := by
            rw [Int.natCast_sub (hle i hi)]
            simp
          simp only [gN, mBin, mVar, List.set_cons_succ, List.set_cons_zero, List.getElem?_cons_succ, List.getElem?_cons_zero, Option.bind_some, Option.map_some, id, DL.sub_int, DL.mul_int, m1, if_true, t]
        obtain ⟨S', q2, o', q3, q4⟩ := compM_mapE (g := gN 7) (m := mNot (mCallF 3 (F_law_euclid fuel) (mCons (mVar 3) (mCons (mVar 7) (mCons (mVar 2) (mNil))))))
          (σ := [some (.d (.int x)), some (.d (.int y)), some (.loc n), some (.d (.int l)), some (.d (.int h)), some (.d (.list ((List.range q).map fun i => PyData.int ((h - (1 + i) * l : Nat) : Int)))), none, none])
          (fun T => ∃ o', T = S.set n o' ∧ Kn o') (fun (i : Nat) => PyData.int ((h - (1 + i) * l : Nat) : Int)) (fun i => .bool (!Wn (l : Int) ((h - (1 + i) * l : Nat) : Int))) (List.range q) S [] ⟨.dT kvs, (set_same hn).symm, kvs, rfl, k1, k2⟩ (by simp; omega) (by
            rintro i T hi ⟨o1, rfl, hk1⟩
            have hi := List.mem_range.mp hi
            have hli := hle i hi
            have hl1 : 1 * l ≤ (1 + i) * l := Nat.mul_le_mul_right l (by omega)
            obtain ⟨z, hz'⟩ : ∃ z, z = h - (1 + i) * l := ⟨_, rfl⟩
            have hmu2 : mu l z < fuel := by
              have a1 : mu x y = h + 1 := by unfold mu; rw [← hl, ← hh, if_neg h0]
              unfold mu
              split
              · omega
              · have : z < h := by omega
                have : l < h := by omega
                omega
            obtain ⟨o2, w1, w2⟩ := ih l z n (S.set n o1) o1 (hset o1) hk1 (by omega) (by omega) hmu2
            refine ⟨_, S.set n o2, rfl, ?_, o2, rfl, w2⟩
            rw [← hz']
            simp only [List.set_set] at w1
            simp only [mVar, mNot, mCallF, mCons, mNil, mC, gN, List.set_cons_succ, List.set_cons_zero, List.getElem?_cons_succ, List.getElem?_cons_zero, Option.bind_some, Option.map_some, id, asB, List.length_cons, List.length_nil, Nat.reduceAdd, decide_true, if_true, w1])
        have hQ := W_any (by omega) hlh hq
        simp only [List.nil_append] at q2
        subst q3
        obtain ⟨kvs', rfl, k1', k2'⟩ := q4
        have q3 := True.intro
        have hput := Kn.put k1' k2' (s := l) (c := h) hlh hh60 rfl
        have hany := any_map (List.range q) (fun i => !Wn (l : Int) ((h - (1 + i) * l : Nat) : Int)) (S.set n (.dT kvs'))
        rw [hQ] at hany
        have hf : fits (kvs'.length + 1) = true := decide_eq_true (by have := Kn.small k1' k2'; omega)
        have hlook2 := look_key (hset (.dT (putD kvs' [.inl (l : Int), .inl (h : Int)] (.bool (Wn (l : Int) (h : Int)))))) (l : Int) (h : Int)
        rw [hput.2] at hlook2
        refine ⟨_, ?_, hput.1⟩
        generalize (List.range q).map (fun i => PyData.int ((h - (1 + i) * l : Nat) : Int)) = A at q1 q2
        generalize (List.range q).map (fun i => PyData.bool (!Wn (l : Int) ((h - (1 + i) * l : Nat) : Int))) = B at q2 hany
        generalize Wn (l : Int) (h : Int) = wb at hany hlook2 ⊢
        clear hQ hput hWs ih q3
        have z2 : s_law_euclid_2 (F_law_euclid fuel) [some (.d (.int x)), some (.d (.int y)), some (.loc n), some (.d (.int l)), some (.d (.int h)), none, none, none] S = some (.nx [some (.d (.int x)), some (.d (.int y)), some (.loc n), some (.d (.int l)), some (.d (.int h)), some (.d (.list A)), none, none] S) := by
          have q1' := q1 (some (.d (.int x))) (some (.d (.int y))) (some (.loc n)) none none none
          clear q1
          simp [s_law_euclid_2, hqi, dv, r1, r2, tn, q1']
        have hs : asS (DL.W.d (.list A)) = some A := rfl
        have z3 : s_law_euclid_3 (F_law_euclid fuel) [some (.d (.int x)), some (.d (.int y)), some (.loc n), some (.d (.int l)), some (.d (.int h)), some (.d (.list A)), none, none] S = some (.nx [some (.d (.int x)), some (.d (.int y)), some (.loc n), some (.d (.int l)), some (.d (.int h)), some (.d (.list A)), none, none] (S.set n (.dT (putD kvs' [.inl (l : Int), .inl (h : Int)] (.bool wb))))) := by
          simp [s_law_euclid_3, hs, q2, hany, vSetI, hset, keyT, keysD, DL.keyD, hf, hf2]
        simp [fnD, b_law_euclid, s_law_euclid_0, s_law_euclid_1, z2, z3, s_law_euclid_4, s_law_euclid_5, hmin, hmax, hz, h0, hf2, vNotIn, vHas, hlook, vDGet, hlook2]
theorem euclid_memo : FnM2 (F_law_euclid 64) eI eI eB Kn Pre Wn := fun S n o a b hn hg ⟨h1, h2, h3, h4⟩ => by
  obtain ⟨x, rfl⟩ := Int.eq_ofNat_of_zero_le h1
  obtain ⟨y, rfl⟩ := Int.eq_ofNat_of_zero_le h3
  exact euclid_ok 64 x y n S o hn hg (by omega) (by omega) (by unfold mu; split <;> omega)
end K74

set_option Elab.async false
set_option linter.all false
set_option maxRecDepth 100000
set_option autoImplicit false
namespace K74
open PySem PySem.Spec PyProof.Rows L2 DL
def D_law_are_small_right  : Dm (Int × O) Bool := (dBind (dBind (dBind (dOpt (some (12 : Int))) fun a => dBind (dBind (dOpt (some (15 : Int))) dTake) fun b => dOpt ((fun a b => some (a + b)) a b)) fun a => fun s Q => Q a (s.1, O.dT [])) fun v1 => (dBind (dOpt (pB1 P_law_table (some v1))) fun v2 => (dSeqF (dBind (dOpt (pB1 (pRange 0) (some (12 : Int)))) fun xs => dForR (fun (s3 : Unit) (x4 : Int) => (dBind (dBind (dBind (dBind (dOpt (pB2 (fun a b => some (a + b)) (some v1) (some (1 : Int)))) dTake) fun a => dOpt ((fun a => some a) a)) fun a => dBind (dBind (dBind (dOpt (pB2 (fun a b => some (a + b)) (some v1) (some (1 : Int)))) dTake) fun a => dOpt ((fun a => some a) a)) fun b => dOpt (some (a, b))) fun v5 => (dIf (dOpt (pB2 (pRep eB false) (pB2 P_two_win (some v5.1) (some v5.2)) (pB1 (valT v2) (pB2 (fun a b => some (a, b)) (some v5.1) (some v5.2))))) (dMap Sum.inr (dOpt (some false))) (dBind (dOpt (pB1 pSetP ((pB2 P_law_there (some v5.1) (some v5.2)).bind fun xs => (pFit xs).bind fun xs => pComp (fun (x6 : (Int × Int)) => (pNot (pB1 (valT v2) (some x6)))) (fun (x6 : (Int × Int)) => (some x6)) xs))) fun v7 => (dIf (dOpt (pB2 (pRep (eV (eP eI eI)) false) (pB2 P_two_good (some v5.1) (some v5.2)) (pB1 (fun xs => some xs) (some v7)))) (dMap Sum.inr (dOpt (some false))) (dBind (dBind (dBind (dBind (dOpt (some (1 : Int))) fun a => dBind (dBind (dOpt (some (60 : Int))) dTake) fun b => dOpt ((fun a b => some (a + b)) a b)) fun a => dOpt ((fun a => some a) a)) fun a => dBind (dBind (dBind (dOpt (some (1 : Int))) fun a => dBind (dBind (dOpt (some (60 : Int))) dTake) fun b => dOpt ((fun a b => some (a + b)) a b)) fun a => dOpt ((fun a => some a) a)) fun b => dOpt (some (a, b))) fun v8 => (dIf (dBind (dOpt (pB2 P_euclid_wins (some v8.1) (some v8.2))) fun a => dBind (dBind (dOpt (some v8.1)) fun a => dBind (dOpt (some v8.2)) fun b => dMemo Kn Pre Wn a b) fun b => fun s Q => (a = b ∧ showOk (eB a) = true) ∧ Q false s) (dMap Sum.inr (dOpt (some false))) (dBind (dOpt (pB2 (fun a b => some (a, b)) (pB2 (fun a b => some (minI a b)) (some v8.1) (some v8.2)) (pB2 (fun a b => some (maxI a b)) (some v8.1) (some v8.2)))) fun v9 => (dBind (dBind (dOpt (pB2 pRange (some (1 : Int)) (pB2 (fun a b => some (a + b)) (pB2 pDiv (some v9.2) (some v9.1)) (some (1 : Int))))) fun xs => dBind (dOpt (pFit xs)) fun xs => dComp (fun (x12 : Int) => (dMap (fun c => !c) (dBind (dOpt (some v9.1)) fun a => dBind (dOpt (pB2 (fun a b => some (a - b)) (some v9.2) (pB2 pMul (some x12) (some v9.1)))) fun b => dMemo Kn Pre Wn a b))) (fun (x12 : Int) => (dOpt (pB1 (fun a => some a) (some x12)))) xs) fun v13 => (dIf (dOpt (pB2 (pRep (eV eI) false) (pB2 P_euclid_good (some v8.1) (some v8.2)) (pB1 (fun xs => some xs) (some v13)))) (dMap Sum.inr (dOpt (some false))) (dMap Sum.inl (dMap (fun _ => ()) (dOpt (some ())))))))))))))) xs ()) (fun v14 => (dOpt (some true))))))
theorem T_law_are_small_right  : DrF WP F_law_are_small_right (fun pn => [.loc pn]) eB (D_law_are_small_right ) := fn_dr (st := Int × O) (Wd := WP) (er := eB) (b := b_law_are_small_right) (N := 13) (d := D_law_are_small_right ) (fun pn => [.loc pn]) (fun pn => (DvF.seqN (DvN.parT 1 2 (DvE.bin tAdd (DvE.pure (fun _ => (Ev.c (e := eI) (v := 12)))) (DvE.take 0 take_ok (DvE.pure (fun _ => (Ev.c (e := eI) (v := 15))))))) (fun v1 => (DvF.seqN (DvN.pure (fun _ => (StN.asg 3 (EvS.own1 T_law_table (Ev.var 1))))) (fun v2 => (DvF.seqR (DvR.for (fun (s3 : Unit) (z : Int × O) => [.w (.loc pn), .w (.d (eI v1)), .m z.2, .m (.dT (List.map (eKV (fun (p : Int × Int) => ([Sum.inl p.1, Sum.inl p.2] : List Key)) eB) v2)), .j, .j, .j, .j, .j, .j, .j, .j, .j]) () (DvI.pure (fun _ => (It.r1 (Ev.c (e := eI) (v := 12))))) (fun _ => (Le.e (Le.e (Le.e (Le.e (Le.j (Le.j (Le.j (Le.j (Le.j (Le.j (Le.j (Le.j (Le.j Le.nil)))))))))))))) (Tg.n 4) (fun s3 x4 => (DvR.seqN (DvN.par2 7 8 (DvE.c1 tInt (DvE.take 0 take_ok (DvE.pure (fun _ => (Ev.bin tAdd (Ev.var 1) (Ev.c (e := eI) (v := 1))))))) (DvE.c1 tInt (DvE.take 0 take_ok (DvE.pure (fun _ => (Ev.bin tAdd (Ev.var 1) (Ev.c (e := eI) (v := 1)))))))) (fun v5 => (DvR.guard (DvT.b (DvE.pure (fun _ => (Ev.rep (Ev.k2 T_two_win (Ev.var 7) (Ev.var 8)) (Ev.getT 3 KT.ii (Ev.pair (Ev.var 7) (Ev.var 8))))))) (DvF.ret (DvE.pure (fun _ => (Ev.c (e := eB) (v := false))))) (DvR.seqN (DvN.pure (fun _ => (StN.asg 5 (Ev.s (Ev.c1 tSetP (Ev.comp (It.l (Ev.f2 T_law_there (Ev.var 7) (Ev.var 8))) (Tg.n 12) (fun x6 => (Te.not (Te.b (Ev.getT 3 KT.ii (Ev.var 12))))) (fun x6 => (Ev.var 12)))))))) (fun v7 => (DvR.guard (DvT.b (DvE.pure (fun _ => (Ev.rep (Ev.k2 T_two_good (Ev.var 7) (Ev.var 8)) (Ev.c1 tTupL (Ev.var 5)))))) (DvF.ret (DvE.pure (fun _ => (Ev.c (e := eB) (v := false))))) (DvR.seqN (DvN.par2 7 8 (DvE.c1 tInt (DvE.bin tAdd (DvE.pure (fun _ => (Ev.c (e := eI) (v := 1)))) (DvE.take 0 take_ok (DvE.pure (fun _ => (Ev.c (e := eI) (v := 60))))))) (DvE.c1 tInt (DvE.bin tAdd (DvE.pure (fun _ => (Ev.c (e := eI) (v := 1)))) (DvE.take 0 take_ok (DvE.pure (fun _ => (Ev.c (e := eI) (v := 60)))))))) (fun v8 => (DvR.guard (DvT.b (DvE.rep (DvE.pure (fun _ => (Ev.k2 T_euclid_wins (Ev.var 7) (Ev.var 8)))) (DvE.memo 2 euclid_memo (DvE.pure (fun _ => (Ev.var 7))) (DvE.pure (fun _ => (Ev.var 8)))))) (DvF.ret (DvE.pure (fun _ => (Ev.c (e := eB) (v := false))))) (DvR.seqN (DvN.pure (fun _ => (StN.unp (Ev.pair (Ev.c2 tMin (Ev.var 7) (Ev.var 8)) (Ev.c2 tMax (Ev.var 7) (Ev.var 8))) (Tg.p2 9 10)))) (fun v9 => (DvR.seqN (DvN.asg 6 (DvE.comp (DvI.pure (fun _ => (It.r2 (Ev.c (e := eI) (v := 1)) (Ev.bin tAdd (Ev.bin tDiv (Ev.var 10) (Ev.var 9)) (Ev.c (e := eI) (v := 1)))))) (TgB.one 11) (fun x12 => (DvT.not (DvT.b (DvE.memo 2 euclid_memo (DvE.pure (fun _ => (Ev.var 9))) (DvE.pure (fun _ => (Ev.bin tSub (Ev.var 10) (Ev.bin tMul (Ev.var 11) (Ev.var 9))))))))) (fun x12 => (DvE.pure (fun _ => (Ev.c1 tInt (Ev.var 11))))))) (fun v13 => (DvR.ite (DvT.b (DvE.pure (fun _ => (Ev.rep (Ev.k2 T_euclid_good (Ev.var 7) (Ev.var 8)) (Ev.c1 tTupL (Ev.var 6)))))) (DvR.ofF (DvF.ret (DvE.pure (fun _ => (Ev.c (e := eB) (v := false)))))) (DvR.ofN (DvN.to (DvN.pure (fun _ => StN.skip)) (fun _ => ()) (fun _ _ => (Le.e (Le.e (Le.e (Le.e (Le.j (Le.j (Le.j (Le.j (Le.j (Le.j (Le.j (Le.j (Le.j Le.nil)))))))))))))))))))))))))))))))) (fun v14 => (DvF.ret (DvE.pure (fun _ => (Ev.c (e := eB) (v := true))))))))))))
end K74

set_option Elab.async false
set_option linter.all false
set_option maxRecDepth 100000
set_option autoImplicit false
/-! law k74: small heaps. -/
noncomputable section
namespace K74
open PySem PySem.Spec PyProof.Rows L2 DL
def mateC : Nat := 1520893598994243906004294417174032106522699632768
def aC : Nat := 3894392220046343543989477055171087012985253670976
def mateT (s : Nat) : Nat := mateC / 64 ^ s % 64
def aT (n : Nat) : Nat := aC / 64 ^ n % 64
theorem isA_tab : ∀ n : Nat, n < 27 → (n : Int) ≤ (aT n : Int) ∧ gz (aT n : Int) (n : Int) ≤ 0 ∧ 0 < gz ((aT n : Int) + 1) (n : Int) := by decide +kernel
def mOk (s : Nat) : Bool := decide ((s : Int) - (mateT s : Int) ≤ 0 ∧ (mateT s : Int) - (s : Int) ≤ (s : Int) ∧ gz (s : Int) ((mateT s : Int) - (s : Int)) ≤ 0 ∧ 0 < gz ((s : Int) + 1) ((mateT s : Int) - (s : Int))) ||
  decide ((mateT s : Int) - (s : Int) ≤ 0 ∧ (s : Int) - (mateT s : Int) ≤ (mateT s : Int) ∧ gz (mateT s : Int) ((s : Int) - (mateT s : Int)) ≤ 0 ∧ 0 < gz ((mateT s : Int) + 1) ((s : Int) - (mateT s : Int)))
theorem mate_tab0 : ∀ s, s < 27 → mOk s = true := by decide +kernel
theorem mate_tab {s : Nat} (h : s < 27) : Pr (s : Int) (mateT s : Int) := by
  have := mate_tab0 s h
  unfold mOk at this
  rw [Bool.or_eq_true, decide_eq_true_eq, decide_eq_true_eq] at this
  rcases this with ⟨h1, h2, h3, h4⟩ | ⟨h1, h2, h3, h4⟩
  · exact ⟨(mateT s : Int) - (s : Int), s, by omega, ⟨h2, h3, h4⟩, .inl ⟨rfl, by omega⟩⟩
  · exact ⟨(s : Int) - (mateT s : Int), mateT s, by omega, ⟨h2, h3, h4⟩, .inr ⟨rfl, by omega⟩⟩
def PT (p : Int × Int) : Bool := decide (mateT p.1.toNat = p.2.toNat)
theorem PT_ok {p : Int × Int} (h1 : 0 ≤ p.1) (h2 : p.1 < 27) (h3 : 0 ≤ p.2) : PT p = true ↔ Pr p.1 p.2 := by
  have ht := mate_tab (s := p.1.toNat) (by omega)
  rw [show ((p.1.toNat : Nat) : Int) = p.1 by omega] at ht
  unfold PT
  rw [decide_eq_true_eq]
  constructor
  · intro e
    rw [e, show ((p.2.toNat : Nat) : Int) = p.2 by omega] at ht
    exact ht
  · intro h
    have := mate_uniq h ht
    omega
def there (a b : Nat) : List (Int × Int) := ((List.range a).map fun (i : Nat) => ((a : Int) - (1 + (i : Int)), (b : Int))) ++ ((List.range b).map fun (i : Nat) => ((a : Int), (b : Int) - (1 + (i : Int)))) ++ ((List.range (min a b)).map fun (i : Nat) => ((a : Int) - (1 + (i : Int)), (b : Int) - (1 + (i : Int))))
def goodN (a b : Nat) : List (Int × Int) := if PT ((a : Int), (b : Int)) = true then [] else
  usP ([((a : Int), (mateT a : Int)), ((mateT b : Int), (b : Int)), if (a : Int) < (b : Int) then ((aT (b - a) : Int), (aT (b - a) : Int) + ((b - a : Nat) : Int)) else ((aT (a - b) : Int) + ((a - b : Nat) : Int), (aT (a - b) : Int))].filter fun p => decide (p.1 ≤ (a : Int)) && decide (p.2 ≤ (b : Int)))
def okCell (a b : Nat) : Bool := decide (((there a b).any PT) = !PT ((a : Int), (b : Int))) && decide (usP ((there a b).filter PT) = goodN a b) && Nat.blt ((there a b).filter PT).length 64 && showOk (eV (eP eI eI) (goodN a b))
set_option maxHeartbeats 0 in
theorem cells_tab : ∀ a, a < 27 → ∀ b, b < 27 → okCell a b = true := by decide +kernel
def okEu (l h : Nat) : Bool := Nat.beq l 0 || Nat.blt h l || (decide (((pRange.rangeI 1 (h / l)).filter fun t => !decide (won (l : Int) ((h : Int) - t * (l : Int)))) = (([((h / l : Nat) : Int) - 1, ((h / l : Nat) : Int)].filter fun t => decide (0 < t))).filter fun t => !decide (won (l : Int) ((h : Int) - t * (l : Int)))) &&
  showOk (eV eI ((([((h / l : Nat) : Int) - 1, ((h / l : Nat) : Int)].filter fun t => decide (0 < t))).filter fun t => !decide (won (l : Int) ((h : Int) - t * (l : Int))))))
set_option maxHeartbeats 0 in
theorem eu_tab : ∀ l, l < 61 → ∀ h, h < 61 → okEu l h = true := by decide +kernel
end K74

set_option Elab.async false
set_option linter.all false
set_option maxRecDepth 100000
set_option autoImplicit false
/-! law k74: the table of small heaps. -/
noncomputable section
namespace K74
open PySem PySem.Spec PyProof.Rows L2 DL
theorem cell_of {a b : Nat} (ha : a < 27) (hb : b < 27) : ((there a b).any PT) = (!PT ((a : Int), (b : Int))) ∧ usP ((there a b).filter PT) = goodN a b ∧ ((there a b).filter PT).length < 64 ∧ showOk (eV (eP eI eI) (goodN a b)) = true := by
  have h := cells_tab a ha b hb
  unfold okCell at h
  simp only [Bool.and_eq_true, decide_eq_true_eq] at h
  obtain ⟨⟨⟨h1, h2⟩, h3⟩, h4⟩ := h
  exact ⟨h1, h2, Nat.blt_eq.mp h3, h4⟩
theorem pB1_s' {α β : Type} (f : α → Option β) (a : α) : pB1 f (some a) = f a := rfl
theorem rng1 (n : Nat) (h : n ≤ 1000) : pB2 pRange (some (1 : Int)) (pB2 (fun a b => some (a + b)) (some (n : Int)) (some (1 : Int))) = some (pRange.rangeI 1 n) := by
  have e : pB2 (fun (a b : Int) => some (a + b)) (some (n : Int)) (some (1 : Int)) = some ((n : Int) + 1) := rfl
  rw [e, pB2_s pRange, pRange_of (by omega) (by omega) (by omega) (by omega)]
  rw [show ((n : Int) + 1 - 1).toNat = n by omega]
theorem rng0 (n : Nat) (h : n ≤ 1000) : pB1 (pRange 0) (pB2 (fun a b => some (a + b)) (some (n : Int)) (some (1 : Int))) = some (pRange.rangeI 0 (n + 1)) := by
  have e : pB2 (fun (a b : Int) => some (a + b)) (some (n : Int)) (some (1 : Int)) = some ((n : Int) + 1) := rfl
  rw [e, pB1_s', pRange_of (by omega) (by omega) (by omega) (by omega)]
  rw [show ((n : Int) + 1 - 0).toNat = n + 1 by omega]
theorem cmp1 {β : Type} (n : Nat) (hn : n ≤ 1000) (m : Int → Option β) (f : Int → β) (h : ∀ x, m x = some (f x)) : ((some (pRange.rangeI 1 n)).bind fun xs => (pFit xs).bind fun xs => pComp (fun (_ : Int) => some true) m xs) = some ((List.range n).map fun (i : Nat) => f (1 + (i : Int))) := by
  rw [Option.bind_some, fit_of (by rw [rangeI_len]; omega), Option.bind_some, pComp_map (f := f) (fun x _ => h x), rangeI_map, List.map_map]
  rfl
theorem there_ok {a b : Nat} (ha : a ≤ 300) (hb : b ≤ 300) : P_law_there (a : Int) (b : Int) = some (there a b) := by
  have hmin : pB2 (fun (a b : Int) => some (minI a b)) (some (a : Int)) (some (b : Int)) = some ((min a b : Nat) : Int) := by
    show some (minI _ _) = _
    rw [minI_eq]; congr 1; omega
  have h1 := cmp1 a (by omega) (fun (x1 : Int) => (pB2 (fun a b => some (a, b)) (pB2 (fun a b => some (a - b)) (some (a : Int)) (some x1)) (some (b : Int)))) (fun x => ((a : Int) - x, (b : Int))) (fun _ => rfl)
  have h2 := cmp1 b (by omega) (fun (x3 : Int) => (pB2 (fun a b => some (a, b)) (some (a : Int)) (pB2 (fun a b => some (a - b)) (some (b : Int)) (some x3)))) (fun x => ((a : Int), (b : Int) - x)) (fun _ => rfl)
  have h3 := cmp1 (min a b) (by omega) (fun (x6 : Int) => (pB2 (fun a b => some (a, b)) (pB2 (fun a b => some (a - b)) (some (a : Int)) (some x6)) (pB2 (fun a b => some (a - b)) (some (b : Int)) (some x6)))) (fun x => ((a : Int) - x, (b : Int) - x)) (fun _ => rfl)
  unfold P_law_there
  rw [hmin, rng1 a (by omega), rng1 b (by omega), rng1 (min a b) (by omega), h1, h2, h3]
  rw [Option.bind_some, Option.bind_some, fit_of (by simp; omega)]
  show pApp _ _ = _
  unfold pApp
  rw [fit_of (by simp; omega)]
  rfl
theorem mem_there {a b : Nat} {z : Int × Int} (h : z ∈ there a b) : ∃ c d : Nat, z = ((c : Int), (d : Int)) ∧ ((c < a ∧ d ≤ b) ∨ (c = a ∧ d < b)) := by
  unfold there at h
  rcases List.mem_append.mp h with h | h
  · rcases List.mem_append.mp h with h | h
    · obtain ⟨i, hi, rfl⟩ := List.mem_map.mp h
      have := List.mem_range.mp hi
      exact ⟨a - (1 + i), b, Prod.ext (by simp only; omega) rfl, by omega⟩
    · obtain ⟨i, hi, rfl⟩ := List.mem_map.mp h
      have := List.mem_range.mp hi
      exact ⟨a, b - (1 + i), Prod.ext rfl (by simp only; omega), by omega⟩
  · obtain ⟨i, hi, rfl⟩ := List.mem_map.mp h
    have := List.mem_range.mp hi
    exact ⟨a - (1 + i), b - (1 + i), Prod.ext (by simp only; omega) (by simp only; omega), by omega⟩
def Tb (M r c : Nat) (s : List ((Int × Int) × Bool)) : Prop := s.length ≤ r * 27 + c ∧ ∀ a b : Nat, b < M → (a < r ∨ (a = r ∧ b < c)) → valT s ((a : Int), (b : Int)) = some (!PT ((a : Int), (b : Int)))
theorem table_ok {most : Nat} (hm : most ≤ 26) : ∃ t, P_law_table (most : Int) = some t ∧ ∀ a b : Nat, a ≤ most → b ≤ most → valT t ((a : Int), (b : Int)) = some (!PT ((a : Int), (b : Int))) := by
  unfold P_law_table
  rw [rng0 most (by omega)]
  rw [Option.bind_some, Option.bind_some]
  obtain ⟨t, h1, h2⟩ := pFor_inv (b := fun (s2 : (List ((Int × Int) × Bool))) (x3 : Int) => (Option.map (fun v8 => v8) ((some (pRange.rangeI 0 (most + 1))).bind fun xs => pFor (fun (s4 : (List ((Int × Int) × Bool))) (x5 : Int) => (Option.map (fun v7 => v7) (pB2 (fun v k => if okLen (s4.length + 1) = true then some (putT s4 k v) else none) (pB1 (fun xs => some (xs.any id)) ((pB2 P_law_there (some x3) (some x5)).bind fun xs => (pFit xs).bind fun xs => pComp (fun (x6 : (Int × Int)) => (some true)) (fun (x6 : (Int × Int)) => (pNot (pB1 (valT s4) (some x6)))) xs)) (pB2 (fun a b => some (a, b)) (some x3) (some x5))))) xs s2)))
    (fun r s => Tb (most + 1) r 0 s) (pRange.rangeI 0 (most + 1)) 0 [] ⟨by simp, fun a b _ h => by omega⟩ (fun r x s hx hs => by
      have hr : r < most + 1 := by have := (List.getElem?_eq_some_iff.mp hx).1; rwa [rangeI_len] at this
      rw [rangeI_at (most + 1) 0 r hr, Int.zero_add] at hx
      cases hx
      rw [Nat.zero_add] at hs ⊢
      rw [Option.bind_some]
      obtain ⟨s', g1, g2⟩ := pFor_inv (b := fun (s4 : (List ((Int × Int) × Bool))) (x5 : Int) => (Option.map (fun v7 => v7) (pB2 (fun v k => if okLen (s4.length + 1) = true then some (putT s4 k v) else none) (pB1 (fun xs => some (xs.any id)) ((pB2 P_law_there (some ((r : Nat) : Int)) (some x5)).bind fun xs => (pFit xs).bind fun xs => pComp (fun (x6 : (Int × Int)) => (some true)) (fun (x6 : (Int × Int)) => (pNot (pB1 (valT s4) (some x6)))) xs)) (pB2 (fun a b => some (a, b)) (some ((r : Nat) : Int)) (some x5)))))
        (fun c s => Tb (most + 1) r c s) (pRange.rangeI 0 (most + 1)) 0 s hs (fun c x s hx hs => by
          have hc : c < most + 1 := by have := (List.getElem?_eq_some_iff.mp hx).1; rwa [rangeI_len] at this
          rw [rangeI_at (most + 1) 0 c hc, Int.zero_add] at hx
          cases hx
          rw [Nat.zero_add] at hs ⊢
          obtain ⟨k1, k2⟩ := hs
          obtain ⟨c1, _, _, _⟩ := cell_of (a := r) (b := c) (by omega) (by omega)
          have hlen : (there r c).length ≤ 16777216 := by unfold there; simp; omega
          have hcomp : pComp (fun (x6 : (Int × Int)) => (some true)) (fun (x6 : (Int × Int)) => (pNot (pB1 (valT s) (some x6)))) (there r c) = some ((there r c).map PT) := pComp_map fun z hz => by
            obtain ⟨a', b', rfl, h⟩ := mem_there hz
            rw [pB1_s', k2 a' b' (by omega) (by omega)]
            simp [pNot]
          have hth : pB2 P_law_there (some ((r : Nat) : Int)) (some ((c : Nat) : Int)) = some (there r c) := (pB2_s P_law_there _ _).trans (there_ok (by omega) (by omega))
          refine ⟨putT s ((r : Int), (c : Int)) (!PT ((r : Int), (c : Int))), ?_, ?_, ?_⟩
          · rw [hth, Option.bind_some, fit_of hlen, Option.bind_some, hcomp, pB1_s']
            have hany : ((there r c).map PT).any id = !PT ((r : Int), (c : Int)) := by rw [List.any_map]; exact c1
            rw [hany]
            show Option.map _ (if okLen (s.length + 1) = true then _ else _) = _
            have : okLen (s.length + 1) = true := by unfold okLen; exact Nat.ble_eq_true_of_le (by omega)
            rw [if_pos this]
            rfl
          · have := put_len s ((r : Int), (c : Int)) (!PT ((r : Int), (c : Int)))
            omega
          · intro a b hb hab
            rw [valT_put]
            by_cases e : ((r : Int), (c : Int)) = ((a : Int), (b : Int))
            · rw [if_pos e, e]
            · rw [if_neg e]
              refine k2 a b hb ?_
              have : ¬ (a = r ∧ b = c) := fun z => e (by rw [z.1, z.2])
              omega)
      rw [rangeI_len, Nat.zero_add] at g2
      refine ⟨s', by rw [g1]; rfl, ?_, ?_⟩
      · have := g2.1; omega
      · intro a b hb hab
        exact g2.2 a b hb (by omega))
  rw [rangeI_len, Nat.zero_add] at h2
  refine ⟨t, ?_, fun a b ha hb => h2.2 a b (by omega) (by omega)⟩
  rw [h1]
  rfl
end K74

set_option Elab.async false
set_option linter.all false
set_option maxRecDepth 100000
set_option autoImplicit false
/-! law k74: a round of small heaps. -/
noncomputable section
namespace K74
open PySem PySem.Spec PyProof.Rows L2 DL
theorem rep_ok {α : Type} [DecidableEq α] {e : Enc α} {r : Bool} {a : α} (h : showOk (e a) = true) : pB2 (pRep e r) (some a) (some a) = some r := by
  rw [pB2_s]
  unfold pRep
  rw [if_pos (by simp [h])]
theorem win_tab {a b : Nat} (ha : a < 27) (hb : b < 27) : pB2 P_two_win (some (a : Int)) (some (b : Int)) = some (!PT ((a : Int), (b : Int))) := by
  obtain ⟨z, h1, h2⟩ := win_ok (x := (a : Int)) (y := (b : Int)) (by omega) (by omega) (by omega) (by omega)
  have h3 := PT_ok (p := ((a : Int), (b : Int))) (by show (0 : Int) ≤ (a : Int); omega) (by show (a : Int) < 27; omega) (by show (0 : Int) ≤ (b : Int); omega)
  have : z = PT ((a : Int), (b : Int)) := by
    rw [Bool.eq_iff_iff, h2, h3]
  rw [pB2_s, h1, this]
theorem good_tab {a b : Nat} (ha : a < 27) (hb : b < 27) : pB2 P_two_good (some (a : Int)) (some (b : Int)) = some (goodN a b) := by
  have h3 := PT_ok (p := ((a : Int), (b : Int))) (by show (0 : Int) ≤ (a : Int); omega) (by show (a : Int) < 27; omega) (by show (0 : Int) ≤ (b : Int); omega)
  rw [pB2_s]
  unfold goodN
  by_cases h : Pr (a : Int) (b : Int)
  · rw [if_pos (h3.mpr h)]
    exact good_no (by omega) (by omega) (by omega) (by omega) h
  · rw [if_neg (fun z => h (h3.mp z))]
    obtain ⟨mx, my, a0, d, c, g1, g2, g3, g4, g5, g6, g7, g8⟩ := good_yes (x := (a : Int)) (y := (b : Int)) (by omega) (by omega) (by omega) (by omega) h
    have e1 := mate_uniq g1 (mate_tab ha)
    have e2 := mate_uniq g2.symm (mate_tab hb)
    subst e1 e2
    have hd : ∀ n : Nat, n < 27 → d = (n : Int) → a0 = (aT n : Int) := fun n hn e => by
      subst e
      obtain ⟨t1, t2, t3⟩ := isA_tab n hn
      exact g6.uniq (by omega) ⟨t1, t2, t3⟩
    rw [g8, g7]
    by_cases c1 : (a : Int) < (b : Int)
    · have hdn : d = ((b - a : Nat) : Int) := by omega
      rw [if_pos c1, if_pos c1, hd (b - a) (by omega) hdn, hdn]
    · have hdn : d = ((a - b : Nat) : Int) := by omega
      rw [if_neg c1, if_neg c1, hd (a - b) (by omega) hdn, hdn]
theorem eu_of {l h : Nat} (hl : l < 61) (hh : h < 61) (h0 : 1 ≤ l) (hlh : l ≤ h) : ((pRange.rangeI 1 (h / l)).filter fun t => !decide (won (l : Int) ((h : Int) - t * (l : Int)))) = (([((h / l : Nat) : Int) - 1, ((h / l : Nat) : Int)].filter fun t => decide (0 < t))).filter (fun t => !decide (won (l : Int) ((h : Int) - t * (l : Int)))) ∧
    showOk (eV eI ((([((h / l : Nat) : Int) - 1, ((h / l : Nat) : Int)].filter fun t => decide (0 < t))).filter fun t => !decide (won (l : Int) ((h : Int) - t * (l : Int))))) = true := by
  have h1 := eu_tab l hl h hh
  unfold okEu at h1
  have e1 : Nat.beq l 0 = false := by
    cases e : Nat.beq l 0 with
    | false => rfl
    | true => have := Nat.eq_of_beq_eq_true e; omega
  have e2 : Nat.blt h l = false := by
    cases e : Nat.blt h l with
    | false => rfl
    | true => have := Nat.blt_eq.mp e; omega
  rw [e1, e2] at h1
  simp only [Bool.false_or, Bool.and_eq_true, decide_eq_true_eq] at h1
  exact h1
theorem kn0 : Kn (.dT []) := ⟨[], rfl, by simp, fun kv h => by cases h⟩
theorem small_ok (k : Int) (hk : k + 49 ≤ 1000000) (o0 : O) : D_law_are_small_right (k, o0) fun b s => b = true ∧ s.1 ≤ k + 49 := by
  unfold D_law_are_small_right
  dsimp only [dBind, dOpt, dIf, dMap, dSeqF, dMemo]
  refine ⟨12, rfl, 15, rfl, by decide, by decide, by show k < _; omega, fun d hd0 hd1 => ?_⟩
  refine ⟨_, rfl, ?_⟩
  obtain ⟨most, hmost⟩ : ∃ m : Nat, 12 + d = (m : Int) := ⟨(12 + d).toNat, by omega⟩
  rw [hmost]
  obtain ⟨t, ht, htab⟩ := table_ok (most := most) (by omega)
  refine ⟨t, (pB1_s' P_law_table _).trans ht, ?_⟩
  have hr12 : pB1 (pRange 0) (some (12 : Int)) = some (pRange.rangeI 0 12) := by
    rw [pB1_s', pRange_of (by omega) (by omega) (by omega) (by omega)]; rfl
  refine ⟨_, hr12, ?_⟩
  refine dForR_inv (fun i s => s.1 = k + 1 + 4 * (i : Int) ∧ Kn s.2) (pRange.rangeI 0 12) 0 _ _ ⟨by simp, kn0⟩ (fun i x s Q hx hI hq => ?_) (fun s' hs' => ?_)
  · have hi : i < 12 := by have := (List.getElem?_eq_some_iff.mp hx).1; rwa [rangeI_len] at this
    obtain ⟨k', o⟩ := s
    obtain ⟨hk', ho⟩ := hI
    have hk' : k' = k + 1 + 4 * ((0 + i : Nat) : Int) := hk'
    refine ⟨(most : Int) + 1, rfl, by omega, by omega, by show k' < _; omega, fun a ha0 ha1 => ?_⟩
    refine ⟨_, rfl, ?_⟩
    refine ⟨(most : Int) + 1, rfl, by omega, by omega, by show k' + 1 < _; omega, fun b hb0 hb1 => ?_⟩
    refine ⟨_, rfl, _, rfl, ?_⟩
    obtain ⟨a, rfl⟩ := Int.eq_ofNat_of_zero_le ha0
    obtain ⟨b, rfl⟩ := Int.eq_ofNat_of_zero_le hb0
    have ha : a < 27 := by omega
    have hb : b < 27 := by omega
    obtain ⟨c1, c2, c3, c4⟩ := cell_of ha hb
    dsimp only
    have hv : pB1 (valT t) (pB2 (fun (a b : Int) => some (a, b)) (some (a : Int)) (some (b : Int))) = some (!PT ((a : Int), (b : Int))) := htab a b (by omega) (by omega)
    refine ⟨false, ?_, ?_⟩
    · rw [hv, win_tab ha hb]
      exact rep_ok (show_bool _)
    have hth : pB2 P_law_there (some ((a : Nat) : Int)) (some ((b : Nat) : Int)) = some (there a b) := (pB2_s P_law_there _ _).trans (there_ok (by omega) (by omega))
    have hlen : (there a b).length ≤ 16777216 := by unfold there; simp; omega
    have hfil : pComp (fun (x6 : (Int × Int)) => (pNot (pB1 (valT t) (some x6)))) (fun (x6 : (Int × Int)) => (some x6)) (there a b) = some (((there a b).filter PT).map fun z => z) := pComp_filter (fun z hz => by
      obtain ⟨a', b', rfl, h⟩ := mem_there hz
      rw [pB1_s', htab a' b' (by omega) (by omega)]
      simp [pNot]) (fun _ _ _ => rfl)
    rw [List.map_id'] at hfil
    have hset : pSetP ((there a b).filter PT) = some (usP ((there a b).filter PT)) := by
      unfold pSetP
      rw [if_pos]
      rw [Bool.and_eq_true]
      refine ⟨Nat.blt_eq.mpr c3, ?_⟩
      rw [List.all_eq_true]
      intro z hz
      obtain ⟨a', b', rfl, h⟩ := mem_there (List.mem_filter.mp hz).1
      simp
    refine ⟨usP ((there a b).filter PT), ?_, ?_⟩
    · rw [hth, Option.bind_some, fit_of hlen, Option.bind_some, hfil, pB1_s', hset]
    refine ⟨false, ?_, ?_⟩
    · rw [good_tab ha hb, c2]
      exact rep_ok c4
    refine ⟨1, rfl, 60, rfl, by decide, by decide, by show k' + 1 + 1 < _; omega, fun x hx0 hx1 => ?_⟩
    refine ⟨_, rfl, _, rfl, ?_⟩
    refine ⟨1, rfl, 60, rfl, by decide, by decide, by show k' + 1 + 1 + 1 < _; omega, fun y hy0 hy1 => ?_⟩
    refine ⟨_, rfl, _, rfl, _, rfl, ?_⟩
    obtain ⟨p, hp⟩ : ∃ p : Nat, 1 + x = (p : Int) := ⟨(1 + x).toNat, by omega⟩
    obtain ⟨q, hq'⟩ : ∃ q : Nat, 1 + y = (q : Int) := ⟨(1 + y).toNat, by omega⟩
    rw [hp, hq']
    dsimp only
    refine ⟨_, (pB2_s P_euclid_wins _ _).trans (ewins_ok (x := (p : Int)) (y := (q : Int)) (by omega) (by omega) (by omega) (by omega)), _, rfl, _, rfl, ⟨ho, ⟨by omega, by omega, by omega, by omega⟩⟩, fun o1 ho1 => ⟨⟨rfl, show_bool _⟩, ?_⟩⟩
    obtain ⟨l, hl⟩ : ∃ l, l = min p q := ⟨_, rfl⟩
    obtain ⟨h, hh⟩ : ∃ h, h = max p q := ⟨_, rfl⟩
    have hli : min (p : Int) (q : Int) = (l : Int) := by omega
    have hhi : max (p : Int) (q : Int) = (h : Int) := by omega
    refine ⟨((l : Int), (h : Int)), ?_, ?_⟩
    · show some (minI (p : Int) (q : Int), maxI (p : Int) (q : Int)) = _
      rw [minI_eq, maxI_eq, hli, hhi]
    have hdv : pB2 pDiv (some (h : Int)) (some (l : Int)) = some ((h / l : Nat) : Int) := by
      rw [pB2_s, pDiv_of (by omega) (by omega)]; simp
    have hmh : h / l ≤ h := Nat.div_le_self h l
    have hrg := rng1 (h / l) (by omega)
    dsimp only
    refine ⟨_, by rw [hdv]; exact hrg, _, fit_of (by rw [rangeI_len]; omega), ?_⟩
    refine dComp_memo (good := Kn) (p := fun t => !Wn (l : Int) ((h : Int) - t * (l : Int))) (f := fun t => t) ho1 ?_ ?_ ?_
    · intro t' ht' o2 Q2 ho2 hq2
      rw [rangeI_map] at ht'
      obtain ⟨j, hj, rfl⟩ := List.mem_map.mp ht'
      have hj := List.mem_range.mp hj
      have hjl : (1 + j) * l ≤ h := by
        have := Nat.mul_le_mul_right l (show 1 + j ≤ h / l by omega)
        have h2 : h / l * l ≤ h := Nat.div_mul_le_self h l
        omega
      have hji : ((1 : Int) + (j : Int)) * (l : Int) = (((1 + j) * l : Nat) : Int) := by simp
      refine ⟨_, rfl, (h : Int) - (1 + (j : Int)) * (l : Int), ?_, ⟨ho2, ⟨by omega, by omega, by omega, by omega⟩⟩, fun o3 ho3 => hq2 o3 ho3⟩
      rw [mm (a := 1 + (j : Int)) (by omega) (by omega)]
      rfl
    · intro t' ht' s2 Q2 hq2
      exact ⟨t', rfl, hq2⟩
    · intro o4 ho4
      rw [List.map_id']
      obtain ⟨e1, e2⟩ := eu_of (l := l) (h := h) (by omega) (by omega) (by omega) (by omega)
      have heg := egood_ok (x := (p : Int)) (y := (q : Int)) (by omega) (by omega) (by omega) (by omega) (m := ((h / l : Nat) : Int)) (by rw [hli, hhi]; simp)
      rw [hli, hhi, ← e1] at heg
      rw [← e1] at e2
      refine ⟨false, ?_, ?_⟩
      · rw [pB2_s P_euclid_good, heg]
        exact rep_ok e2
      · exact ⟨(), rfl, hq _ ⟨by show k' + 1 + 1 + 1 + 1 = _; omega, ho4⟩⟩
  · rw [rangeI_len] at hs'
    obtain ⟨h1, h2⟩ := hs'
    exact ⟨true, rfl, rfl, by omega⟩
end K74

set_option Elab.async false
set_option linter.all false
set_option maxRecDepth 100000
set_option autoImplicit false
/-! law k74: the law. -/
noncomputable section
namespace K74
open PySem PySem.Spec PyProof.Rows L2 DL
theorem small_right : FnRight 49 F_law_are_small_right := fun n S k o hS hP hk => by
  obtain ⟨r, s', o', h1, ⟨rfl, h2⟩, h3⟩ := T_law_are_small_right S n (k, .dead) o _ hS hP (small_ok k hk .dead)
  exact ⟨o', h1, h3.mono h2⟩
theorem great_right : FnRight 4 F_law_are_great_right := right_of T_law_are_great_right fun k _ hk => great_ok k hk
theorem inner (s0 s1 : Option DL.W) (S : Sto) (o : O) (hp2 : Pot 49 o) :
    ∃ xs S2, compM (gN 3) mYes (mCallF 1 F_law_are_great_right (mCons (mVar 2) mNil)) (rangeD 0 4) [s0, s1, some (.loc S.length), none] (S ++ [o]) [] = some ([] ++ xs, S2) ∧ ∀ x ∈ xs, x = .bool true := by
  obtain ⟨xs, S2, c1, c2, c3, c4⟩ := compM_st (g := gN 3) (m := mCallF 1 F_law_are_great_right (mCons (mVar 2) (mNil))) (fun j S' => ∃ o', S'[S.length]? = some o' ∧ Pot (49 + (j : Int) * 4) o') (fun x => x = .bool true) (rangeD 0 4) 0 [s0, s1, some (.loc S.length), none] (S ++ [o]) [] ⟨o, by simp, by simpa using hp2⟩ (by rw [rangeD_length]; show 0 + 4 ≤ 16777216; omega) (by
      rintro j d T hj ⟨o', ho, hP⟩
      have hjk : j < 4 := by
        have := (List.getElem?_eq_some_iff.mp hj).1
        simpa using this
      have hlt : S.length < T.length := (List.getElem?_eq_some_iff.mp ho).1
      obtain ⟨o2, r1, r2⟩ := great_right S.length T _ o' ho hP (by omega)
      refine ⟨_, .bool true, T.set S.length o2, rfl, by simp [r1], rfl, o2, by simp [hlt], ?_⟩
      have e : 49 + ((0 + j : Nat) : Int) * 4 + 4 = 49 + ((0 + j + 1 : Nat) : Int) * 4 := by omega
      rw [← e]
      exact r2)
  exact ⟨xs, S2, c1, c4⟩
theorem round (ns : List Int) (i : Nat) (hi : i < 1000) (y z : Option DL.W) (S : Sto) :
    ∃ S2, mSeq s_law_0 s_law_1 [some (.sc ns), some (.d (.int i)), y, z] S = some (.nx [some (.sc ns), some (.d (.int i)), some (.loc S.length), z] S2) := by
  have hbig : big62 (4 : Int) = true := big62_of (by omega) (by omega)
  obtain ⟨o, hp1, hp2⟩ := pot_ok ns (i : Int) S (by omega) (by omega)
  obtain ⟨o1, g1, g2⟩ := small_right S.length (S ++ [o]) 0 o (by simp) hp2 (by omega)
  have hs : (S ++ [o]).set S.length o1 = S ++ [o1] := by simp
  rw [hs] at g1
  obtain ⟨xs, S2, c1, c4⟩ := inner (some (.sc ns)) (some (.d (.int i))) S o1 (by simpa using g2)
  obtain ⟨bs, b1, b2⟩ := all_true xs c4
  refine ⟨S2, ?_⟩
  rw [List.nil_append] at c1
  have e1 : iR1 (mCons (mInt 4) mNil) [some (.sc ns), some (.d (.int i)), some (.loc S.length), z] (S ++ [o1]) = some (rangeD 0 4, S ++ [o1]) := by
    simp [hbig]
  have e2 : mComp (iR1 (mCons (mInt 4) mNil)) (gN 3) mYes (mCallF 1 F_law_are_great_right (mCons (mVar 2) mNil)) [3] [some (.sc ns), some (.d (.int i)), some (.loc S.length), z] (S ++ [o1]) = some (.d (.list xs), S2) := by
    unfold mComp
    rw [e1]
    show ((compM (gN 3) mYes (mCallF 1 F_law_are_great_right (mCons (mVar 2) mNil)) (rangeD 0 4) [some (.sc ns), some (.d (.int i)), some (.loc S.length), none] (S ++ [o1]) []).map fun q => (W.d (.list q.1), q.2)) = _
    rw [c1]
    rfl
  have e3 : mCallF 2 F_law_pot (mCons (mVar 0) (mCons (mVar 1) mNil)) [some (.sc ns), some (.d (.int i)), y, z] S = some (.loc S.length, S ++ [o]) := by simp [hp1]
  have e4 : pure1 vAll S2 [.d (.list xs)] = some (.d (.bool true), S2) := by simp [vAll, b1, b2]
  have e5 : mCallF 1 F_law_are_small_right (mCons (mVar 2) mNil) [some (.sc ns), some (.d (.int i)), some (.loc S.length), z] (S ++ [o]) = some (.d (.bool true), S ++ [o1]) := by simp [g1]
  have z0 : s_law_0 [some (.sc ns), some (.d (.int i)), y, z] S = some (.nx [some (.sc ns), some (.d (.int i)), some (.loc S.length), z] (S ++ [o])) := by
    unfold s_law_0
    simp only [mAsg, e3, Option.map_some, List.set_cons_succ, List.set_cons_zero]
  have z1 : s_law_1 [some (.sc ns), some (.d (.int i)), some (.loc S.length), z] (S ++ [o]) = some (.nx [some (.sc ns), some (.d (.int i)), some (.loc S.length), z] S2) := by
    unfold s_law_1
    simp only [mIfS, mOrT, mNotT, mB, e5, Option.map_some, Option.bind_some, mCall, mCons, mNil, e2, e4, asB, mSkip]
    rfl
  simp only [mSeq, z0, z1, Option.bind_some]
theorem law_ok (ns : List Int) : ∃ S', F_law [.sc ns] [] = some (.d (.bool true), S') := by
  obtain ⟨k, hk, hcl⟩ := K74.cells_ok ns 2 (by omega) []
  obtain ⟨σ', S', h1, h2, h3⟩ := forM_nx (g := gN 1) (b := mSeq s_law_0 s_law_1) (fun i σ S => ∃ x y z, σ = [some (.sc ns), x, y, z]) (rangeD 0 k) 0 [some (.sc ns), none, none, none] [] ⟨_, _, _, rfl⟩ (by
    rintro i d σ S hi ⟨x, y, z, rfl⟩
    have hik : i < k := by
      have := (List.getElem?_eq_some_iff.mp hi).1
      simpa using this
    rw [rangeD_at k 0 i hik, Int.zero_add] at hi
    cases hi
    obtain ⟨S2, h⟩ := round ns i (by omega) y z S
    exact ⟨_, _, S2, rfl, h, ⟨_, _, _, rfl⟩⟩)
  have hp : F_law_are_pairs_right [] S' = some (.d (.bool true), S') := T_law_are_pairs_right S' true pairs_ok
  refine ⟨[], ?_⟩
  have z2 : s_law_2 [some (.sc ns), none, none, none] [] = some (.nx σ' S') := by
    have hcl' : F_law_cells [.sc ns, .d (.int 2)] [] = some (.d (.list (rangeD 0 k)), []) := hcl
    unfold s_law_2
    simp [hcl', h1, -DL.forM, -DL.mSeq]
  have z3 : s_law_3 σ' S' = some (.rt (.d (.bool true)) S') := by
    unfold s_law_3
    simp [hp]
  show fnD 4 b_law [.sc ns] [] = _
  unfold fnD
  have hst : ([W.sc ns].map some ++ List.replicate (4 - [W.sc ns].length) none : DL.Env) = [some (.sc ns), none, none, none] := rfl
  rw [hst]
  simp only [b_law, mSeq, z2, z3, Option.bind_some]
  rfl
end K74

set_option Elab.async false
set_option linter.all false
set_option maxRecDepth 100000
set_option autoImplicit false
noncomputable section
namespace K74
open PySem PySem.Spec PyProof.Rows L2 DL
set_option maxHeartbeats 0
theorem run (w : World) : HandSHeadRun.RunEq R (PySem.W.view R.prog [lawPlace]) hk ob 4000 (names) w := by
  intro os
  kernel_rfl
end K74
open PySem PySem.W PySem.Calls PyProof.Rows
theorem K74.holds (hm : ∀ ns : List Int, ns.length ≤ 63 → ∃ S', K74.F_law [.sc ns] [] = some (.d (.bool true), S')) : PySem.Challenge.rw_whoeverbegins_k74_whole_two_heaps_and_eu.Holds := by
  w_on; o_law
  refine HandSHeadRun.head_any (r := K74.R) (q := view K74.R.prog [K74.lawPlace]) (H := K74.hk) (ob := K74.ob) (M := 4000) (loose := K74.names) (d := HandSHeadRun.topDef K74.R.prog K74.lawPlace) (kwd := []) K74.ob_eq
    (by kernel_rfl) (fun s => by kernel_rfl) K74.run (by kernel_rfl) (by kernel_rfl) (by kernel_rfl) (by rfl) (by first | assumption | decide +kernel) (by decide +kernel) ⟨rfl, rfl, rfl, rfl, rfl, by decide +kernel⟩ ?hw ?hc
  case hw => w_witness2
  case hc =>
    refine DL.walk_G (l := PySem.Challenge.rw_whoeverbegins_k74_whole_two_heaps_and_eu) (n := 63) (k := 67) (x := "script") rfl (by decide) (by kernel_rfl) ⟨rfl, by decide, by decide⟩ ?F
    intro w mg fa h Y G hmg0
    obtain ⟨K, KX, c⟩ := Y
    have hmg : mg ("law" : PySem.Str) = some (.ref fa) := by
      have e : (HandSHeadRun.topDef K74.R.prog K74.lawPlace).name = ("law" : PySem.Str) := by kernel_rfl
      rw [← e]
      exact hmg0
    obtain ⟨fd, hb, hF⟩ := K74.facts (P := (PySem.Challenge.rw_whoeverbegins_k74_whole_two_heaps_and_eu).prog) (w := w) KX G hmg c rfl
    exact ⟨K, fd, K74.F_law, KX, hb, hm, fun base _ _ => hF base⟩

set_option Elab.async false
set_option linter.all false
set_option maxRecDepth 100000
set_option autoImplicit false
theorem K74.two_heaps : PySem.Challenge.rw_whoeverbegins_k74_whole_two_heaps_and_eu.Holds :=
  K74.holds fun ns _ => K74.law_ok ns

theorem PySem.Challenge.cw_whoeverbegins_k74_whole_two_heaps_and_eu_holds : PySem.Challenge.rw_whoeverbegins_k74_whole_two_heaps_and_eu.Holds := by
  exact K74.two_heaps
