import PyProof.Rows.All
import Wide.All
import OpenK.AllK
import Wide.FinOn
import HandS.ForMost
import HandS.Style
import HandS.Wide
import HandS.TupAny
import HandS.Deep
import HandS.Zip
import HandS.Conv
import HandS.Defaults
import HandS.IsInst
import KE.KTupSum
import KE.KStateDown
import Lean
import HandS.NoneIn
import HandS.Iter
import HandS.Head0
import HandS.Head1
import HandS.Head2
import HandS.HeadEnd
import HandS.HeadHook1
import HandS.HeadHook2
import HandS.HeadHook3
import HandS.HeadHook4
import HandS.Text
import PySem.Challenge.RW_whoeverbegins_k37_whole_products_of_heap
set_option Elab.async false
set_option linter.all false
set_option maxRecDepth 100000
set_option autoImplicit false
/-! The data layer, 1: values as data, a store of mutable objects, how they lie in the abstract heap. -/
noncomputable section
namespace DL
open PySem PySem.Spec PyProof.Rows L2

/-- a proposition as a Bool that nothing evaluates: a bound must never be computed by the kernel -/
def says (p : Prop) : Bool := @decide p (Classical.propDecidable p)
theorem says_iff {p : Prop} : says p = true ↔ p := by unfold says; exact @decide_eq_true_iff p (Classical.propDecidable p)
theorem says_true {p : Prop} (h : p) : says p = true := says_iff.mpr h
theorem says_of {p : Prop} (h : says p = true) : p := says_iff.mp h
abbrev D := PyData
/-- what a name may hold: data that nobody changes; the n-th mutable object; a constant tuple of the top; the script; a raw value; a dict that nobody changes any more -/
inductive W where
  | d (x : D) | loc (n : Nat) | ct (xs : List D) | sc (ns : List Int) | v (x : V) | kd (b : Bool) (kvs : List (Key × D)) | td (b : Bool) (kvs : List (List Key × D))
inductive O where
  | lst (xs : List D) | dK (kvs : List (Key × D)) | dT (kvs : List (List Key × D)) | dead
abbrev Sto := List O
/-- where the mutable objects lie; what else no data may lie at -/
structure Rho where
  l : List (Option Addr)
  b : List Addr
def Rho.Fr (ρ : Rho) (a : Addr) : Prop := some a ∉ ρ.l ∧ a ∉ ρ.b
def Rho.add (ρ : Rho) (p : Addr) : Rho := ⟨ρ.l ++ [some p], ρ.b⟩
def Rho.kill (ρ : Rho) (i : Nat) : Rho := ⟨ρ.l.set i none, ρ.b⟩
def Rho.cut (ρ : Rho) (n : Nat) : Rho := ⟨ρ.l.take n, ρ.b⟩
def Rho.pick (ρ : Rho) (n k : Nat) : Rho := ⟨ρ.l.take n ++ (ρ.l[k]?).toList, ρ.b⟩
def Rho.block (ρ : Rho) (a : Addr) : Rho := ⟨ρ.l, a :: ρ.b⟩
abbrev Env := List (Option W)

mutual
inductive Rep (ρ : Rho) (H : Hp) : D → V → Prop
  | non : Rep ρ H .none .non
  | bl (b : Bool) : Rep ρ H (.bool b) (.bl b)
  | int (i : Int) : Rep ρ H (.int i) (.int i)
  | str (x : Str) : Rep ρ H (.str x) (.str x)
  | tup {a : Addr} {ds : List D} {vs : List V} : H a = some (.tup vs) → ρ.Fr a → RepL ρ H ds vs → Rep ρ H (.tuple ds) (.ref a)
  | lst {a : Addr} {ds : List D} {vs : List V} : H a = some (.lst vs) → ρ.Fr a → RepL ρ H ds vs → Rep ρ H (.list ds) (.ref a)
inductive RepL (ρ : Rho) (H : Hp) : List D → List V → Prop
  | nil : RepL ρ H [] []
  | cons {d : D} {v : V} {ds : List D} {vs : List V} : Rep ρ H d v → RepL ρ H ds vs → RepL ρ H (d :: ds) (v :: vs)
end

/-- flat data -/
inductive Flat : D → V → Prop
  | non : Flat .none .non
  | bl (b : Bool) : Flat (.bool b) (.bl b)
  | int (i : Int) : Flat (.int i) (.int i)
  | str (x : Str) : Flat (.str x) (.str x)
theorem Flat.rep {ρ : Rho} {H : Hp} {d : D} {v : V} (f : Flat d v) : Rep ρ H d v := by
  cases f
  · exact .non
  · exact .bl _
  · exact .int _
  · exact .str _
inductive FlatL : List D → List V → Prop
  | nil : FlatL [] []
  | cons {d : D} {v : V} {ds : List D} {vs : List V} : Flat d v → FlatL ds vs → FlatL (d :: ds) (v :: vs)
theorem FlatL.rep {ρ : Rho} {H : Hp} {ds : List D} {vs : List V} (f : FlatL ds vs) : RepL ρ H ds vs := by
  induction f with
  | nil => exact .nil
  | cons a _ ih => exact .cons a.rep ih

/-- an object of the written part, a list -/
def KL (K : PySem.W.Frag) (a : Addr) (xs : List V) : Prop :=
  ∃ (o : Obj) (its : Array Value) (n : Nat), K.lookup a = some o ∧ o.cls = .type "list" ∧ o.dict = none ∧ o.data = .seq its n ∧ its.size ≤ sizeLine ∧ Vals xs its.toList

inductive RepKV {κ : Type} (ρ : Rho) (H : Hp) : List (κ × D) → List (κ × V) → Prop
  | nil : RepKV ρ H [] []
  | cons {k : κ} {d : D} {v : V} {r : List (κ × D)} {s : List (κ × V)} : Rep ρ H d v → RepKV ρ H r s → RepKV ρ H ((k, d) :: r) ((k, v) :: s)

def RelW (K : PySem.W.Frag) (ρ : Rho) (H : Hp) : W → V → Prop
  | .d x, v => Rep ρ H x v
  | .loc i, v => i < ρ.l.length ∧ ∀ a, ρ.l[i]? = some (some a) → v = .ref a
  | .ct xs, v => ∃ a vs, v = .ref a ∧ (∀ H', SqT K H' a vs) ∧ FlatL xs vs
  | .sc ns, v => ∃ a, v = .ref a ∧ ((∃ o, H a = some (.frz o (.lst (ns.map V.int))) ∧ ρ.Fr a) ∨ KL K a (ns.map V.int))
  | .v x, v => v = x
  | .kd b kvs, v => ∃ a us, v = .ref a ∧ ρ.Fr a ∧ Rd H a (.dK us) ∧ (b = true → ∃ o, H a = some (.frz o (.dK us))) ∧ RepKV ρ H kvs us
  | .td b kvs, v => ∃ a us, v = .ref a ∧ ρ.Fr a ∧ Rd H a (.dT us) ∧ (b = true → ∃ o, H a = some (.frz o (.dT us))) ∧ RepKV ρ H kvs us

structure RelE (K : PySem.W.Frag) (ρ : Rho) (H : Hp) (σd : Env) (σ : L2.St) : Prop where
  len : σd.length = σ.length
  get : ∀ (i : Nat) (w : W), σd[i]? = some (some w) → ∃ v, σ[i]? = some (some v) ∧ RelW K ρ H w v

def ORel (ρ : Rho) (H : Hp) (a : Addr) : O → Prop
  | .lst ds => ∃ vs, H a = some (.lst vs) ∧ RepL ρ H ds vs
  | .dK kvs => ∃ us, H a = some (.dK us) ∧ RepKV ρ H kvs us
  | .dT kvs => ∃ us, H a = some (.dT us) ∧ RepKV ρ H kvs us
  | .dead => False

structure SRel (ρ : Rho) (H : Hp) (S : Sto) : Prop where
  len : ρ.l.length = S.length
  obj : ∀ (i : Nat) (a : Addr), ρ.l[i]? = some (some a) → ∃ o, S[i]? = some o ∧ ORel ρ H a o
  inj : ∀ (i j : Nat) (a : Addr), ρ.l[i]? = some (some a) → ρ.l[j]? = some (some a) → i = j
  live : ∀ (i : Nat) (o : O), S[i]? = some o → o ≠ .dead → ∃ a, ρ.l[i]? = some (some a)
  blk : ∀ a, a ∈ ρ.b → (∃ xs, H a = some (.lst xs)) ∧ some a ∉ ρ.l

/-- what is tracked and not mutable stays; locations stay or die -/
structure Ext (ρ : Rho) (H : Hp) (ρ' : Rho) (H' : Hp) : Prop where
  keep : ∀ (a : Addr) (o : HO), H a = some o → some a ∉ ρ.l → H' a = some o ∧ some a ∉ ρ'.l
  loc : ∀ (i : Nat) (a : Addr), i < ρ.l.length → ρ'.l[i]? = some (some a) → ρ.l[i]? = some (some a)
  len : ρ.l.length ≤ ρ'.l.length
  dom : ∀ a : Addr, H' a = none → H a = none
  bnew : ∀ a, a ∈ ρ'.b → a ∈ ρ.b ∨ H a = none
  bsub : ∀ a, a ∈ ρ.b → a ∈ ρ'.b

variable {K : PySem.W.Frag} {ρ ρ' ρ'' : Rho} {H H' H'' : Hp} {S S' : Sto}

theorem Ext.refl : Ext ρ H ρ H := ⟨fun _ _ h n => ⟨h, n⟩, fun _ _ _ h => h, Nat.le_refl _, fun _ h => h, fun _ h => .inl h, fun _ h => h⟩
theorem Ext.trans (e : Ext ρ H ρ' H') (f : Ext ρ' H' ρ'' H'') : Ext ρ H ρ'' H'' :=
  ⟨fun a o h n => let ⟨h1, n1⟩ := e.keep a o h n; f.keep a o h1 n1, fun i a hi h => e.loc i a hi (f.loc i a (Nat.lt_of_lt_of_le hi e.len) h), Nat.le_trans e.len f.len, fun a h => e.dom a (f.dom a h), fun a h => (f.bnew a h).elim (e.bnew a) fun z => .inr (e.dom a z), fun a h => f.bsub a (e.bsub a h)⟩
theorem Ext.at (e : Ext ρ H ρ' H') {a : Addr} {o : HO} (h : H a = some o) (n : ρ.Fr a) : H' a = some o ∧ ρ'.Fr a :=
  ⟨(e.keep a o h n.1).1, (e.keep a o h n.1).2, fun z => (e.bnew a z).elim n.2 fun q => by rw [h] at q; cases q⟩

mutual
theorem Rep.ext (e : Ext ρ H ρ' H') : ∀ {d : D} {v : V}, Rep ρ H d v → Rep ρ' H' d v
  | _, _, .non => .non
  | _, _, .bl b => .bl b
  | _, _, .int i => .int i
  | _, _, .str x => .str x
  | _, _, .tup h n r => .tup (e.at h n).1 (e.at h n).2 (RepL.ext e r)
  | _, _, .lst h n r => .lst (e.at h n).1 (e.at h n).2 (RepL.ext e r)
theorem RepL.ext (e : Ext ρ H ρ' H') : ∀ {ds : List D} {vs : List V}, RepL ρ H ds vs → RepL ρ' H' ds vs
  | _, _, .nil => .nil
  | _, _, .cons r t => .cons (Rep.ext e r) (RepL.ext e t)
end
theorem RepKV.ext {κ : Type} (e : Ext ρ H ρ' H') {kvs : List (κ × D)} {us : List (κ × V)} (h : RepKV ρ H kvs us) : RepKV ρ' H' kvs us := by
  induction h with
  | nil => exact .nil
  | cons r _ ih => exact .cons (r.ext e) ih
theorem Ext.rd (e : Ext ρ H ρ' H') {a : Addr} {u : HO} (h : Rd H a u) (n : ρ.Fr a) : Rd H' a u ∧ ρ'.Fr a := by
  rcases h with h | ⟨o, h⟩
  · exact ⟨.inl (e.at h n).1, (e.at h n).2⟩
  · exact ⟨.inr ⟨o, (e.at h n).1⟩, (e.at h n).2⟩
theorem RelW.ext (e : Ext ρ H ρ' H') : ∀ {w : W} {v : V}, RelW K ρ H w v → RelW K ρ' H' w v
  | .d _, _, h => Rep.ext e h
  | .loc i, _, ⟨h1, h2⟩ => ⟨Nat.lt_of_lt_of_le h1 e.len, fun a ha => h2 a (e.loc i a h1 ha)⟩
  | .ct _, _, h => h
  | .sc _, _, ⟨a, e1, h⟩ => ⟨a, e1, h.imp (fun ⟨o, h1, h2⟩ => ⟨o, e.at h1 h2⟩) id⟩
  | .v _, _, h => h
  | .kd _ _, _, ⟨a, us, e1, n, h1, hb, h2⟩ => ⟨a, us, e1, (e.rd h1 n).2, (e.rd h1 n).1, fun z => (hb z).imp fun o q => (e.at q n).1, h2.ext e⟩
  | .td _ _, _, ⟨a, us, e1, n, h1, hb, h2⟩ => ⟨a, us, e1, (e.rd h1 n).2, (e.rd h1 n).1, fun z => (hb z).imp fun o q => (e.at q n).1, h2.ext e⟩
theorem RelE.ext {σd : Env} {σ : L2.St} (e : Ext ρ H ρ' H') (h : RelE K ρ H σd σ) : RelE K ρ' H' σd σ :=
  ⟨h.len, fun i w hi => let ⟨v, h1, h2⟩ := h.get i w hi; ⟨v, h1, h2.ext e⟩⟩

/-! lists of data -/
theorem RepL.length {ds : List D} {vs : List V} (h : RepL ρ H ds vs) : ds.length = vs.length := by
  induction ds generalizing vs with
  | nil => cases h; rfl
  | cons d ds ih => cases h with | cons _ t => simp [ih t]
theorem RepL.get {ds : List D} {vs : List V} (h : RepL ρ H ds vs) {i : Nat} {d : D} (e : ds[i]? = some d) : ∃ v, vs[i]? = some v ∧ Rep ρ H d v := by
  induction ds generalizing vs i with
  | nil => simp at e
  | cons x ds ih =>
    cases h with
    | cons r t =>
      cases i with
      | zero => simp at e; subst e; exact ⟨_, rfl, r⟩
      | succ i => simp at e; simpa using ih t e
theorem RepL.getV {ds : List D} {vs : List V} (h : RepL ρ H ds vs) {i : Nat} {v : V} (e : vs[i]? = some v) : ∃ d, ds[i]? = some d ∧ Rep ρ H d v := by
  induction ds generalizing vs i with
  | nil => cases h; simp at e
  | cons x ds ih =>
    cases h with
    | cons r t =>
      cases i with
      | zero => simp at e; subst e; exact ⟨_, rfl, r⟩
      | succ i => simp at e; simpa using ih t e
theorem RepL.append {ds es : List D} {vs us : List V} (h : RepL ρ H ds vs) (g : RepL ρ H es us) : RepL ρ H (ds ++ es) (vs ++ us) := by
  induction ds generalizing vs with
  | nil => cases h; exact g
  | cons d ds ih => cases h with | cons r t => exact .cons r (ih t)
theorem RepL.take {ds : List D} {vs : List V} (n : Nat) (h : RepL ρ H ds vs) : RepL ρ H (ds.take n) (vs.take n) := by
  induction ds generalizing vs n with
  | nil => cases h; simp; exact .nil
  | cons d ds ih =>
    cases h with
    | cons r t =>
      cases n with
      | zero => exact .nil
      | succ n => exact .cons r (ih n t)
theorem RepL.drop {ds : List D} {vs : List V} (n : Nat) (h : RepL ρ H ds vs) : RepL ρ H (ds.drop n) (vs.drop n) := by
  induction ds generalizing vs n with
  | nil => cases h; simp; exact .nil
  | cons d ds ih =>
    cases h with
    | cons r t =>
      cases n with
      | zero => exact .cons r t
      | succ n => exact ih n t
theorem RepL.reverse {ds : List D} {vs : List V} (h : RepL ρ H ds vs) : RepL ρ H ds.reverse vs.reverse := by
  induction ds generalizing vs with
  | nil => cases h; exact .nil
  | cons d ds ih =>
    cases h with
    | cons r t =>
      rw [List.reverse_cons, List.reverse_cons]
      exact (ih t).append (.cons r .nil)
theorem RepL.set {ds : List D} {vs : List V} (n : Nat) {d : D} {v : V} (h : RepL ρ H ds vs) (r0 : Rep ρ H d v) : RepL ρ H (ds.set n d) (vs.set n v) := by
  induction ds generalizing vs n with
  | nil => cases h; exact .nil
  | cons d ds ih =>
    cases h with
    | cons r t =>
      cases n with
      | zero => exact .cons r0 t
      | succ n => exact .cons r (ih n t)
theorem RepL.ints {ns : List Int} {vs : List V} (h : RepL ρ H (ns.map PyData.int) vs) : vs = ns.map V.int := by
  induction ns generalizing vs with
  | nil => cases h; rfl
  | cons n ns ih =>
    cases h with
    | cons r t => cases r; rw [ih t]; rfl
theorem RepL.bools {ns : List Bool} {vs : List V} (h : RepL ρ H (ns.map PyData.bool) vs) : vs = ns.map V.bl := by
  induction ns generalizing vs with
  | nil => cases h; rfl
  | cons n ns ih =>
    cases h with
    | cons r t => cases r; rw [ih t]; rfl
theorem RepL.ofInts : ∀ ns : List Int, RepL ρ H (ns.map PyData.int) (ns.map V.int)
  | [] => .nil
  | n :: ns => .cons (.int n) (RepL.ofInts ns)

/-! the heap grows -/
def Gr (H H' : Hp) : Prop := ∀ a o, H a = some o → H' a = some o
theorem Gr.refl : Gr H H := fun _ _ h => h
theorem Gr.trans (h : Gr H H') (g : Gr H' H'') : Gr H H'' := fun a o e => g a o (h a o e)
theorem Gr.new {p : Addr} {o : HO} (h : H p = none) : Gr H (upd H p o) := fun a u e => by
  rw [upd_ne (ne_of_none e h)]; exact e
theorem SRel.mem (s : SRel ρ H S) {a : Addr} (h : some a ∈ ρ.l) : ∃ o, H a = some o := by
  obtain ⟨i, e⟩ := List.mem_iff_getElem?.mp h
  obtain ⟨o, _, r⟩ := s.obj i a e
  cases o with
  | lst ds => obtain ⟨vs, h1, _⟩ := r; exact ⟨_, h1⟩
  | dK ds => obtain ⟨vs, h1, _⟩ := r; exact ⟨_, h1⟩
  | dT ds => obtain ⟨vs, h1, _⟩ := r; exact ⟨_, h1⟩
  | dead => exact r.elim
theorem SRel.freshl (s : SRel ρ H S) {p : Addr} (h : H p = none) : some p ∉ ρ.l := fun z => by
  obtain ⟨o, e⟩ := s.mem z
  rw [h] at e; cases e
theorem SRel.freshb (s : SRel ρ H S) {p : Addr} (h : H p = none) : p ∉ ρ.b := fun z => by
  obtain ⟨o, e⟩ := (s.blk p z).1
  rw [h] at e; cases e
theorem SRel.fresh (s : SRel ρ H S) {p : Addr} (h : H p = none) : ρ.Fr p := ⟨s.freshl h, s.freshb h⟩
theorem none_of_gr (g : Gr H H') (a : Addr) (h : H' a = none) : H a = none := by
  cases e : H a with
  | none => rfl
  | some o => rw [g a o e] at h; cases h
theorem none_of_upd {p : Addr} {o : HO} (a : Addr) (h : upd H p o a = none) : H a = none := by
  by_cases e : a = p
  · subst e; rw [upd_same] at h; cases h
  · rwa [upd_ne e] at h
theorem Ext.gr (g : Gr H H') : Ext ρ H ρ H' := ⟨fun a o h n => ⟨g a o h, n⟩, fun _ _ _ h => h, Nat.le_refl _, none_of_gr g, fun _ h => .inl h, fun _ h => h⟩
theorem ORel.gr (g : Gr H H') {a : Addr} : ∀ {o : O}, ORel ρ H a o → ORel ρ H' a o
  | .lst _, ⟨vs, h, r⟩ => ⟨vs, g _ _ h, r.ext (Ext.gr g)⟩
  | .dK _, ⟨vs, h, r⟩ => ⟨vs, g _ _ h, r.ext (Ext.gr g)⟩
  | .dT _, ⟨vs, h, r⟩ => ⟨vs, g _ _ h, r.ext (Ext.gr g)⟩
  | .dead, h => h
theorem SRel.gr (g : Gr H H') (s : SRel ρ H S) : SRel ρ H' S :=
  ⟨s.len, fun i a e => let ⟨o, h1, h2⟩ := s.obj i a e; ⟨o, h1, h2.gr g⟩, s.inj, s.live, fun a h => ⟨let ⟨o, e⟩ := (s.blk a h).1; ⟨o, g a _ e⟩, (s.blk a h).2⟩⟩
theorem Ext.new {p : Addr} {o : HO} (h : H p = none) : Ext ρ H ρ (upd H p o) := Ext.gr (Gr.new h)
theorem SRel.new {p : Addr} {o : HO} (s : SRel ρ H S) (h : H p = none) : SRel ρ (upd H p o) S := s.gr (Gr.new h)

/-- the shape of a mutable object over other addresses -/
theorem ORel.ext (e : Ext ρ H ρ' H') {a : Addr} (h : H' a = H a) : ∀ {o : O}, ORel ρ H a o → ORel ρ' H' a o
  | .lst _, ⟨vs, h1, r⟩ => ⟨vs, h.trans h1, r.ext e⟩
  | .dK _, ⟨vs, h1, r⟩ => ⟨vs, h.trans h1, r.ext e⟩
  | .dT _, ⟨vs, h1, r⟩ => ⟨vs, h.trans h1, r.ext e⟩
  | .dead, h1 => h1

/-- a new mutable object -/
theorem add_at {l : List (Option Addr)} {p a : Addr} {k : Nat} (e : (l ++ [some p])[k]? = some (some a)) : k < l.length ∧ l[k]? = some (some a) ∨ k = l.length ∧ a = p := by
  by_cases hk : k < l.length
  · rw [List.getElem?_append_left hk] at e; exact .inl ⟨hk, e⟩
  · rw [List.getElem?_append_right (by omega)] at e
    cases q : k - l.length with
    | zero => rw [q] at e; simp at e; exact .inr ⟨by omega, e.symm⟩
    | succ n => rw [q] at e; simp at e
theorem Ext.alloc {p : Addr} {o : HO} (s : SRel ρ H S) (h : H p = none) : Ext ρ H (ρ.add p) (upd H p o) where
  keep := fun a u e n => by
    have hne : a ≠ p := ne_of_none e h
    refine ⟨by rw [upd_ne hne]; exact e, fun z => ?_⟩
    rcases List.mem_append.mp z with z | z
    · exact n z
    · simp at z; exact hne z
  loc := fun i a hi e => by
    have e' : (ρ.l ++ [some p])[i]? = some (some a) := e
    rwa [List.getElem?_append_left hi] at e'
  len := by simp [Rho.add]
  dom := none_of_upd
  bnew := fun _ h => .inl h
  bsub := fun _ h => h
theorem SRel.alloc {p : Addr} {ho : HO} {o : O} (s : SRel ρ H S) (h : H p = none) (r : ORel (ρ.add p) (upd H p ho) p o) : SRel (ρ.add p) (upd H p ho) (S ++ [o]) where
  len := by simp [s.len, Rho.add]
  obj := fun i a e => by
    rcases add_at e with ⟨hi, e'⟩ | ⟨hi, rfl⟩
    · obtain ⟨u, h1, h2⟩ := s.obj i a e'
      refine ⟨u, by rw [List.getElem?_append_left (by rw [← s.len]; exact hi)]; exact h1, ?_⟩
      have hne : a ≠ p := fun z => s.freshl h (z ▸ List.mem_of_getElem? e')
      exact h2.ext (Ext.alloc s h) (upd_ne hne)
    · refine ⟨o, ?_, r⟩
      rw [hi, s.len, List.getElem?_append_right (Nat.le_refl _)]
      simp
  inj := fun i j a e1 e2 => by
    rcases add_at e1 with ⟨h1, q1⟩ | ⟨h1, q1⟩ <;> rcases add_at e2 with ⟨h2, q2⟩ | ⟨h2, q2⟩
    · exact s.inj i j a q1 q2
    · subst q2; exact absurd (List.mem_of_getElem? q1) (s.freshl h)
    · subst q1; exact absurd (List.mem_of_getElem? q2) (s.freshl h)
    · omega
  live := fun i u e hu => by
    by_cases hi : i < S.length
    · rw [List.getElem?_append_left hi] at e
      obtain ⟨a, q⟩ := s.live i u e hu
      refine ⟨a, ?_⟩
      show (ρ.l ++ [some p])[i]? = _
      rw [List.getElem?_append_left (by rw [s.len]; exact hi)]
      exact q
    · rw [List.getElem?_append_right (by omega)] at e
      have : i - S.length = 0 := by
        cases q : i - S.length with
        | zero => rfl
        | succ n => rw [q] at e; simp at e
      refine ⟨p, ?_⟩
      show (ρ.l ++ [some p])[i]? = _
      rw [List.getElem?_append_right (by rw [s.len]; omega), s.len, this]
      rfl
  blk := fun a ha => by
    obtain ⟨⟨u, e⟩, n⟩ := s.blk a ha
    have hne : a ≠ p := ne_of_none e h
    refine ⟨⟨u, by rw [upd_ne hne]; exact e⟩, fun z => ?_⟩
    rcases List.mem_append.mp z with z | z
    · exact n z
    · simp at z; exact hne z

/-- a mutable object written -/
theorem Ext.write {a : Addr} {ho : HO} (h : some a ∈ ρ.l) : Ext ρ H ρ (upd H a ho) where
  keep := fun b u e n => by
    have hne : b ≠ a := fun z => n (z ▸ h)
    exact ⟨by rw [upd_ne hne]; exact e, n⟩
  loc := fun _ _ _ e => e
  len := Nat.le_refl _
  dom := none_of_upd
  bnew := fun _ h => .inl h
  bsub := fun _ h => h
theorem SRel.write {i : Nat} {a : Addr} {ho : HO} {o : O} (s : SRel ρ H S) (hi : ρ.l[i]? = some (some a)) (r : ORel ρ (upd H a ho) a o) : SRel ρ (upd H a ho) (S.set i o) where
  len := by simp [s.len]
  obj := fun j b e => by
    by_cases hj : j = i
    · subst hj
      rw [hi] at e; cases e
      have hlt : j < S.length := by rw [← s.len]; exact (List.getElem?_eq_some_iff.mp hi).1
      exact ⟨o, by rw [List.getElem?_set_self hlt], r⟩
    · obtain ⟨u, h1, h2⟩ := s.obj j b e
      have hne : b ≠ a := fun z => hj (s.inj j i b e (z ▸ hi))
      refine ⟨u, by rw [List.getElem?_set_ne (Ne.symm hj)]; exact h1, h2.ext (Ext.write (List.mem_of_getElem? hi)) (upd_ne hne)⟩
  inj := s.inj
  live := fun j u e hu => by
    by_cases hj : j = i
    · subst hj; exact ⟨a, hi⟩
    · rw [List.getElem?_set_ne (Ne.symm hj)] at e
      exact s.live j u e hu
  blk := fun b hb => by
    obtain ⟨⟨u, e⟩, n⟩ := s.blk b hb
    have hne : b ≠ a := fun z => n (z ▸ List.mem_of_getElem? hi)
    exact ⟨⟨u, by rw [upd_ne hne]; exact e⟩, n⟩

/-- a mutable list is frozen -/
theorem mem_kill {l : List (Option Addr)} {i : Nat} {b : Addr} (z : some b ∈ l.set i none) : some b ∈ l := by
  obtain ⟨j, hj⟩ := List.mem_iff_getElem?.mp z
  rw [List.getElem?_set] at hj
  split at hj
  · split at hj <;> cases hj
  · exact List.mem_of_getElem? hj
theorem kill_at {l : List (Option Addr)} {i j : Nat} {b : Addr} (e : (l.set i none)[j]? = some (some b)) : i ≠ j ∧ l[j]? = some (some b) := by
  rw [List.getElem?_set] at e
  split at e
  · split at e <;> cases e
  · rename_i h; exact ⟨h, e⟩
theorem Ext.freeze {i : Nat} : Ext ρ H (ρ.kill i) H where
  keep := fun b u e n => ⟨e, fun z => n (mem_kill z)⟩
  loc := fun j b _ e => (kill_at e).2
  len := by simp [Rho.kill]
  dom := fun _ h => h
  bnew := fun _ h => .inl h
  bsub := fun _ h => h
theorem SRel.freeze {i : Nat} (s : SRel ρ H S) : SRel (ρ.kill i) H (S.set i .dead) where
  len := by simp [s.len, Rho.kill]
  obj := fun j b e => by
    obtain ⟨hj, e'⟩ := kill_at e
    obtain ⟨u, h1, h2⟩ := s.obj j b e'
    exact ⟨u, by rw [List.getElem?_set_ne hj]; exact h1, h2.ext Ext.freeze rfl⟩
  inj := fun j k b e1 e2 => s.inj j k b (kill_at e1).2 (kill_at e2).2
  live := fun j u e hu => by
    rw [List.getElem?_set] at e
    split at e
    · split at e
      · cases e; exact absurd rfl hu
      · cases e
    · rename_i hj
      obtain ⟨a, q⟩ := s.live j u e hu
      refine ⟨a, ?_⟩
      show (ρ.l.set i none)[j]? = _
      rw [List.getElem?_set_ne hj]
      exact q
  blk := fun b hb => ⟨(s.blk b hb).1, fun z => (s.blk b hb).2 (mem_kill z)⟩
theorem SRel.notin {i : Nat} {a : Addr} (s : SRel ρ H S) (hi : ρ.l[i]? = some (some a)) : (ρ.kill i).Fr a := ⟨fun z => by
  obtain ⟨j, hj⟩ := List.mem_iff_getElem?.mp z
  obtain ⟨h1, h2⟩ := kill_at hj
  exact h1 (s.inj i j a hi h2), fun z => (s.blk a z).2 (List.mem_of_getElem? hi)⟩

/-- data over fewer, over other blocked addresses -/
theorem Rep.sub {ρ' : Rho} (hk : ∀ a, ρ.Fr a → ρ'.Fr a) {d : D} {v : V} (r : Rep ρ H d v) : Rep ρ' H d v :=
  Rep.rec (motive_1 := fun d v _ => Rep ρ' H d v) (motive_2 := fun ds vs _ => RepL ρ' H ds vs) .non .bl .int .str
      (fun h n _ ih => .tup h (hk _ n) ih) (fun h n _ ih => .lst h (hk _ n) ih) .nil (fun _ _ h1 h2 => .cons h1 h2) r
theorem RepL.sub {ρ' : Rho} (hk : ∀ a, ρ.Fr a → ρ'.Fr a) {ds : List D} {vs : List V} (r : RepL ρ H ds vs) : RepL ρ' H ds vs := by
  induction ds generalizing vs with
  | nil => cases r; exact .nil
  | cons d ds ih => cases r with | cons a b => exact .cons (a.sub hk) (ih b)
theorem RepKV.sub {κ : Type} {ρ' : Rho} (hk : ∀ a, ρ.Fr a → ρ'.Fr a) {kvs : List (κ × D)} {us : List (κ × V)} (h : RepKV ρ H kvs us) : RepKV ρ' H kvs us := by
  induction h with
  | nil => exact .nil
  | cons r _ ih => exact .cons (r.sub hk) ih
theorem ORel.sub {ρ' : Rho} (hk : ∀ a, ρ.Fr a → ρ'.Fr a) {a : Addr} : ∀ {o : O}, ORel ρ H a o → ORel ρ' H a o
  | .lst _, ⟨vs, h1, r⟩ => ⟨vs, h1, r.sub hk⟩
  | .dK _, ⟨vs, h1, r⟩ => ⟨vs, h1, r.sub hk⟩
  | .dT _, ⟨vs, h1, r⟩ => ⟨vs, h1, r.sub hk⟩
  | .dead, h1 => h1
/-- .. where the heap may be another, and what is free may shrink, as long as what stands stays free -/
theorem Rep.mv {ρ' : Rho} (hk : ∀ a o, H a = some o → ρ.Fr a → H' a = some o ∧ ρ'.Fr a) {d : D} {v : V} (r : Rep ρ H d v) : Rep ρ' H' d v :=
  Rep.rec (motive_1 := fun d v _ => Rep ρ' H' d v) (motive_2 := fun ds vs _ => RepL ρ' H' ds vs) .non .bl .int .str
      (fun h n _ ih => .tup (hk _ _ h n).1 (hk _ _ h n).2 ih) (fun h n _ ih => .lst (hk _ _ h n).1 (hk _ _ h n).2 ih) .nil (fun _ _ h1 h2 => .cons h1 h2) r
theorem RepL.mv {ρ' : Rho} (hk : ∀ a o, H a = some o → ρ.Fr a → H' a = some o ∧ ρ'.Fr a) {ds : List D} {vs : List V} (r : RepL ρ H ds vs) : RepL ρ' H' ds vs := by
  induction ds generalizing vs with
  | nil => cases r; exact .nil
  | cons d ds ih => cases r with | cons a b => exact .cons (a.mv hk) (ih b)
theorem RepKV.mv {κ : Type} {ρ' : Rho} (hk : ∀ a o, H a = some o → ρ.Fr a → H' a = some o ∧ ρ'.Fr a) {kvs : List (κ × D)} {us : List (κ × V)} (h : RepKV ρ H kvs us) : RepKV ρ' H' kvs us := by
  induction h with
  | nil => exact .nil
  | cons r _ ih => exact .cons (r.mv hk) ih
theorem ORel.mv {ρ' : Rho} (hk : ∀ a o, H a = some o → ρ.Fr a → H' a = some o ∧ ρ'.Fr a) {a : Addr} (h : H' a = H a) : ∀ {o : O}, ORel ρ H a o → ORel ρ' H' a o
  | .lst _, ⟨vs, h1, r⟩ => ⟨vs, h.trans h1, r.mv hk⟩
  | .dK _, ⟨vs, h1, r⟩ => ⟨vs, h.trans h1, r.mv hk⟩
  | .dT _, ⟨vs, h1, r⟩ => ⟨vs, h.trans h1, r.mv hk⟩
  | .dead, h1 => h1
theorem rd_mv {ρ' : Rho} (hk : ∀ a o, H a = some o → ρ.Fr a → H' a = some o ∧ ρ'.Fr a) {a : Addr} {u : HO} (h : Rd H a u) (n : ρ.Fr a) : Rd H' a u ∧ ρ'.Fr a := by
  rcases h with h | ⟨o, h⟩
  · exact ⟨.inl (hk _ _ h n).1, (hk _ _ h n).2⟩
  · exact ⟨.inr ⟨o, (hk _ _ h n).1⟩, (hk _ _ h n).2⟩
theorem RelW.mv {ρ' : Rho} (hk : ∀ a o, H a = some o → ρ.Fr a → H' a = some o ∧ ρ'.Fr a) (hl : ρ'.l = ρ.l) : ∀ {w : W} {v : V}, RelW K ρ H w v → RelW K ρ' H' w v
  | .d _, _, h => Rep.mv hk h
  | .loc i, _, ⟨h1, h2⟩ => ⟨by rw [hl]; exact h1, fun a ha => h2 a (by rw [← hl]; exact ha)⟩
  | .ct _, _, h => h
  | .sc _, _, ⟨a, e1, h⟩ => ⟨a, e1, h.imp (fun ⟨o, h1, h2⟩ => ⟨o, hk _ _ h1 h2⟩) id⟩
  | .v _, _, h => h
  | .kd _ _, _, ⟨a, us, e1, n, h1, hb, h2⟩ => ⟨a, us, e1, (rd_mv hk h1 n).2, (rd_mv hk h1 n).1, fun z => (hb z).imp fun o q => (hk _ _ q n).1, h2.mv hk⟩
  | .td _ _, _, ⟨a, us, e1, n, h1, hb, h2⟩ => ⟨a, us, e1, (rd_mv hk h1 n).2, (rd_mv hk h1 n).1, fun z => (hb z).imp fun o q => (hk _ _ q n).1, h2.mv hk⟩
theorem RelE.mv {ρ' : Rho} (hk : ∀ a o, H a = some o → ρ.Fr a → H' a = some o ∧ ρ'.Fr a) (hl : ρ'.l = ρ.l) {σd : Env} {σ : L2.St} (h : RelE K ρ H σd σ) : RelE K ρ' H' σd σ :=
  ⟨h.len, fun i w hi => let ⟨v, h1, h2⟩ := h.get i w hi; ⟨v, h1, h2.mv hk hl⟩⟩

/-- an address is blocked: a list that is being made -/
theorem SRel.blocked {p : Addr} {xs : List V} (s : SRel ρ H S) (h : H p = none) : SRel (ρ.block p) (upd H p (.lst xs)) S := by
  have hk : ∀ a u, H a = some u → ρ.Fr a → upd H p (.lst xs) a = some u ∧ (ρ.block p).Fr a := fun a u e n => by
    have hne : a ≠ p := ne_of_none e h
    exact ⟨by rw [upd_ne hne]; exact e, n.1, fun z => by
      rcases List.mem_cons.mp z with z | z
      · exact hne z
      · exact n.2 z⟩
  refine ⟨s.len, fun i a e => ?_, s.inj, s.live, fun a ha => ?_⟩
  · obtain ⟨u, h1, h2⟩ := s.obj i a e
    have hne : a ≠ p := fun z => s.freshl h (z ▸ List.mem_of_getElem? e)
    exact ⟨u, h1, h2.mv hk (upd_ne hne)⟩
  · rcases List.mem_cons.mp ha with rfl | ha
    · exact ⟨⟨xs, upd_same⟩, s.freshl h⟩
    · obtain ⟨⟨u, e⟩, n⟩ := s.blk a ha
      have hne : a ≠ p := ne_of_none e h
      exact ⟨⟨u, by rw [upd_ne hne]; exact e⟩, n⟩
theorem block_mv {p : Addr} {o : HO} (h : H p = none) : ∀ a u, H a = some u → ρ.Fr a → upd H p o a = some u ∧ (ρ.block p).Fr a := fun a u e n => by
  have hne : a ≠ p := ne_of_none e h
  exact ⟨by rw [upd_ne hne]; exact e, n.1, fun z => by
    rcases List.mem_cons.mp z with z | z
    · exact hne z
    · exact n.2 z⟩
/-- what is blocked may be written -/
theorem blk_mv {p : Addr} {o : HO} (h : p ∈ ρ.b) : ∀ a u, H a = some u → ρ.Fr a → upd H p o a = some u ∧ ρ.Fr a := fun a u e n => by
  have hne : a ≠ p := fun z => n.2 (z ▸ h)
  exact ⟨by rw [upd_ne hne]; exact e, n⟩
theorem SRel.blkW {p : Addr} {xs : List V} (s : SRel ρ H S) (h : p ∈ ρ.b) : SRel ρ (upd H p (.lst xs)) S := by
  refine ⟨s.len, fun i a e => ?_, s.inj, s.live, fun a ha => ?_⟩
  · obtain ⟨u, h1, h2⟩ := s.obj i a e
    have hne : a ≠ p := fun z => (s.blk p h).2 (z ▸ List.mem_of_getElem? e)
    exact ⟨u, h1, h2.mv (blk_mv h) (upd_ne hne)⟩
  · by_cases hne : a = p
    · subst hne; exact ⟨⟨xs, upd_same⟩, (s.blk a ha).2⟩
    · obtain ⟨⟨u, e⟩, n⟩ := s.blk a ha
      exact ⟨⟨u, by rw [upd_ne hne]; exact e⟩, n⟩
/-- .. and let go -/
theorem unblock_fr {b : List Addr} (hb : ∀ a, a ∈ b → a ∈ ρ.b) : ∀ a, ρ.Fr a → Rho.Fr ⟨ρ.l, b⟩ a := fun a n => ⟨n.1, fun z => n.2 (hb a z)⟩
theorem SRel.unblock {b : List Addr} (s : SRel ρ H S) (hb : ∀ a, a ∈ b → a ∈ ρ.b) : SRel ⟨ρ.l, b⟩ H S :=
  ⟨s.len, fun i a e => let ⟨o, h1, h2⟩ := s.obj i a e; ⟨o, h1, ORel.sub (unblock_fr hb) h2⟩, s.inj, s.live, fun a ha => s.blk a (hb a ha)⟩

/-- the locations from n on are forgotten -/
theorem Ext.cut {n : Nat} (e : Ext ρ H ρ' H') (hn : ρ.l.length ≤ n) : Ext ρ H (ρ'.cut n) H' where
  keep := fun a o h k => ⟨(e.keep a o h k).1, fun z => (e.keep a o h k).2 (List.mem_of_mem_take z)⟩
  loc := fun i a hi q => by
    have q' : (ρ'.l.take n)[i]? = some (some a) := q
    rw [List.getElem?_take_of_lt (by omega)] at q'
    exact e.loc i a hi q'
  len := by
    show _ ≤ (ρ'.l.take n).length
    rw [List.length_take]
    have := e.len
    omega
  dom := e.dom
  bnew := e.bnew
  bsub := e.bsub
theorem SRel.cut {n : Nat} (s : SRel ρ H S) : SRel (ρ.cut n) H (S.take n) where
  len := by simp [s.len, Rho.cut]
  obj := fun i a e => by
    have e' : (ρ.l.take n)[i]? = some (some a) := e
    rw [List.getElem?_take] at e'
    split at e'
    · rename_i hi
      obtain ⟨o, h1, h2⟩ := s.obj i a e'
      exact ⟨o, by rw [List.getElem?_take_of_lt hi]; exact h1, h2.sub (ρ' := ρ.cut n) fun a h => ⟨fun z => h.1 (List.mem_of_mem_take z), h.2⟩⟩
    · cases e'
  inj := fun i j a e1 e2 => by
    have e1' : (ρ.l.take n)[i]? = some (some a) := e1
    have e2' : (ρ.l.take n)[j]? = some (some a) := e2
    rw [List.getElem?_take] at e1' e2'
    split at e1'
    · split at e2'
      · exact s.inj i j a e1' e2'
      · cases e2'
    · cases e1'
  live := fun i o e ho => by
    rw [List.getElem?_take] at e
    split at e
    · rename_i hi
      obtain ⟨a, q⟩ := s.live i o e ho
      refine ⟨a, ?_⟩
      show (ρ.l.take n)[i]? = _
      rw [List.getElem?_take_of_lt hi]
      exact q
    · cases e
  blk := fun a ha => ⟨(s.blk a ha).1, fun z => (s.blk a ha).2 (List.mem_of_mem_take z)⟩
/-- .. but the k-th, which comes to the place n -/
theorem mem_pick {l : List (Option Addr)} {n k : Nat} {x : Option Addr} (h : x ∈ l.take n ++ (l[k]?).toList) : x ∈ l := by
  rcases List.mem_append.mp h with h | h
  · exact List.mem_of_mem_take h
  · cases e : l[k]? with
    | none => rw [e] at h; simp at h
    | some y => rw [e] at h; simp at h; subst h; exact List.mem_of_getElem? e
theorem pick_at {α : Type} {l : List α} {n k : Nat} (hn : n ≤ k) (hk : k < l.length) {i : Nat} {x : α} (h : (l.take n ++ (l[k]?).toList)[i]? = some x) : (i < n ∧ l[i]? = some x) ∨ (i = n ∧ l[k]? = some x) := by
  have hl : (l.take n).length = n := by rw [List.length_take]; omega
  by_cases hi : i < n
  · rw [List.getElem?_append_left (by omega), List.getElem?_take_of_lt hi] at h
    exact .inl ⟨hi, h⟩
  · rw [List.getElem?_append_right (by omega), hl] at h
    obtain ⟨y, e⟩ : ∃ y, l[k]? = some y := ⟨l[k], by simp [hk]⟩
    rw [e] at h
    cases q : i - n with
    | zero => rw [q] at h; simp at h; exact .inr ⟨by omega, by rw [e, h]⟩
    | succ m => rw [q] at h; simp at h
theorem at_pick_lt {α : Type} {l : List α} {n k : Nat} (hn : n ≤ k) (hk : k < l.length) {i : Nat} (hi : i < n) : (l.take n ++ (l[k]?).toList)[i]? = l[i]? := by
  have hl : (l.take n).length = n := by rw [List.length_take]; omega
  rw [List.getElem?_append_left (by omega), List.getElem?_take_of_lt hi]
theorem at_pick {α : Type} {l : List α} {n k : Nat} (hn : n ≤ k) (hk : k < l.length) : (l.take n ++ (l[k]?).toList)[n]? = l[k]? := by
  have hl : (l.take n).length = n := by rw [List.length_take]; omega
  rw [List.getElem?_append_right (by omega), hl]
  obtain ⟨y, e⟩ : ∃ y, l[k]? = some y := ⟨l[k], by simp [hk]⟩
  rw [e]; simp
theorem Ext.pick {n k : Nat} (e : Ext ρ H ρ' H') (hn : ρ.l.length ≤ n) (hnk : n ≤ k) (hk : k < ρ'.l.length) : Ext ρ H (ρ'.pick n k) H' where
  keep := fun a o h q => ⟨(e.keep a o h q).1, fun z => (e.keep a o h q).2 (mem_pick z)⟩
  loc := fun i a hi q => by
    have q' : (ρ'.l.take n ++ (ρ'.l[k]?).toList)[i]? = some (some a) := q
    rw [at_pick_lt hnk hk (by omega)] at q'
    exact e.loc i a hi q'
  len := by
    show _ ≤ (ρ'.l.take n ++ (ρ'.l[k]?).toList).length
    rw [List.length_append, List.length_take]
    omega
  dom := e.dom
  bnew := e.bnew
  bsub := e.bsub
theorem SRel.pick {n k : Nat} (s : SRel ρ H S) (hnk : n ≤ k) (hk : k < ρ.l.length) : SRel (ρ.pick n k) H (S.take n ++ (S[k]?).toList) where
  len := by
    have hk' : k < S.length := by rw [← s.len]; exact hk
    simp [s.len, hk', Rho.pick]
  obj := fun i a e => by
    have hk' : k < S.length := by rw [← s.len]; exact hk
    rcases pick_at hnk hk e with ⟨hi, e'⟩ | ⟨hi, e'⟩
    · obtain ⟨o, h1, h2⟩ := s.obj i a e'
      exact ⟨o, by rw [at_pick_lt hnk hk' hi]; exact h1, h2.sub (ρ' := ρ.pick n k) fun a h => ⟨fun z => h.1 (mem_pick z), h.2⟩⟩
    · subst hi
      obtain ⟨o, h1, h2⟩ := s.obj k a e'
      exact ⟨o, by rw [at_pick hnk hk']; exact h1, h2.sub (ρ' := ρ.pick i k) fun a h => ⟨fun z => h.1 (mem_pick z), h.2⟩⟩
  inj := fun i j a e1 e2 => by
    rcases pick_at hnk hk e1 with ⟨h1, e1⟩ | ⟨h1, e1⟩ <;> rcases pick_at hnk hk e2 with ⟨h2, e2⟩ | ⟨h2, e2⟩
    · exact s.inj i j a e1 e2
    · have := s.inj i k a e1 e2; omega
    · have := s.inj j k a e2 e1; omega
    · omega
  live := fun i o e ho => by
    have hk' : k < S.length := by rw [← s.len]; exact hk
    rcases pick_at hnk hk' e with ⟨hi, e'⟩ | ⟨hi, e'⟩
    · obtain ⟨a, q⟩ := s.live i o e' ho
      refine ⟨a, ?_⟩
      show (ρ.l.take n ++ (ρ.l[k]?).toList)[i]? = _
      rw [at_pick_lt hnk hk hi]
      exact q
    · subst hi
      obtain ⟨a, q⟩ := s.live k o e' ho
      refine ⟨a, ?_⟩
      show (ρ.l.take i ++ (ρ.l[k]?).toList)[i]? = _
      rw [at_pick hnk hk]
      exact q
  blk := fun a ha => ⟨(s.blk a ha).1, fun z => (s.blk a ha).2 (mem_pick z)⟩

/-! reading -/
def asL (S : Sto) : W → Option (List D)
  | .d (.list xs) => some xs
  | .loc i => match S[i]? with
    | some (.lst xs) => some xs
    | _ => none
  | .sc ns => some (ns.map PyData.int)
  | _ => none
@[simp] def asT : W → Option (List D)
  | .d (.tuple xs) => some xs
  | .ct xs => some xs
  | _ => none
theorem asL_rel (s : SRel ρ H S) {w : W} {v : V} {ds : List D} (r : RelW K ρ H w v) (h : asL S w = some ds) : ∃ a vs, v = .ref a ∧ SqL K H a vs ∧ RepL ρ H ds vs := by
  cases w with
  | d x =>
    cases x with
    | list xs =>
      cases h
      cases r with
      | lst h1 _ h3 => exact ⟨_, _, rfl, .inl (.inl h1), h3⟩
    | _ => cases h
  | loc i =>
    simp only [asL] at h
    split at h
    · rename_i xs e
      cases h
      obtain ⟨a, q⟩ := s.live i _ e (by intro z; cases z)
      obtain ⟨o, h1, h2⟩ := s.obj i a q
      rw [e] at h1; cases h1
      obtain ⟨vs, h3, h4⟩ := h2
      exact ⟨a, vs, r.2 a q, .inl (.inl h3), h4⟩
    · cases h
  | sc ns =>
    cases h
    obtain ⟨a, e, h⟩ := r
    refine ⟨a, ns.map V.int, e, ?_, RepL.ofInts ns⟩
    rcases h with ⟨o, h1, _⟩ | h
    · exact .inl (.inr ⟨o, h1⟩)
    · exact .inr h
  | ct _ => cases h
  | kd _ _ => cases h
  | td _ _ => cases h
  | v _ => cases h
theorem asT_rel {w : W} {v : V} {ds : List D} (r : RelW K ρ H w v) (h : asT w = some ds) : ∃ a vs, v = .ref a ∧ SqT K H a vs ∧ RepL ρ H ds vs := by
  cases w with
  | d x =>
    cases x with
    | tuple xs =>
      cases h
      cases r with
      | tup h1 _ h3 => exact ⟨_, _, rfl, .inl (.inl h1), h3⟩
    | _ => cases h
  | ct xs =>
    cases h
    obtain ⟨a, vs, e, h1, h2⟩ := r
    exact ⟨a, vs, e, h1 H, h2.rep⟩
  | _ => cases h
theorem SRel.lst_at (s : SRel ρ H S) {i : Nat} {xs : List D} {v : V} (r : RelW K ρ H (.loc i) v) (h : S[i]? = some (.lst xs)) : ∃ a vs, v = .ref a ∧ ρ.l[i]? = some (some a) ∧ H a = some (.lst vs) ∧ RepL ρ H xs vs := by
  obtain ⟨a, q⟩ := s.live i _ h (by intro z; cases z)
  obtain ⟨o, h1, h2⟩ := s.obj i a q
  rw [h] at h1; cases h1
  obtain ⟨vs, h3, h4⟩ := h2
  exact ⟨a, vs, r.2 a q, q, h3, h4⟩
end DL

set_option Elab.async false
set_option linter.all false
set_option maxRecDepth 100000
set_option autoImplicit false
/-! The data layer, 2: what an expression gives (ME), its canonical reading (tD), the rules. -/
noncomputable section
namespace DL
open PySem PySem.Spec PyProof.Rows L2

abbrev ME := Env → Sto → Option (W × Sto)
abbrev MT := Env → Sto → Option (Bool × Sto)
abbrev MA := Env → Sto → Option (List W × Sto)

def tD (K : PySem.W.Frag) (m : ME) : TE := fun σ H Q => ∃ ρ σd S w S', SRel ρ H S ∧ RelE K ρ H σd σ ∧ m σd S = some (w, S') ∧ ∀ ρ' v H', Ext ρ H ρ' H' → SRel ρ' H' S' → RelW K ρ' H' w v → Q v H'
def tDT (K : PySem.W.Frag) (m : MT) : TT := fun σ H Q => ∃ ρ σd S b S', SRel ρ H S ∧ RelE K ρ H σd σ ∧ m σd S = some (b, S') ∧ ∀ ρ' H', Ext ρ H ρ' H' → SRel ρ' H' S' → Q b H'
inductive RelWs (K : PySem.W.Frag) (ρ : Rho) (H : Hp) : List W → List V → Prop
  | nil : RelWs K ρ H [] []
  | cons {w : W} {v : V} {ws : List W} {vs : List V} : RelW K ρ H w v → RelWs K ρ H ws vs → RelWs K ρ H (w :: ws) (v :: vs)
def tDA (K : PySem.W.Frag) (m : MA) : TA := fun σ H Q => ∃ ρ σd S ws S', SRel ρ H S ∧ RelE K ρ H σd σ ∧ m σd S = some (ws, S') ∧ ∀ ρ' vs H', Ext ρ H ρ' H' → SRel ρ' H' S' → RelWs K ρ' H' ws vs → Q vs H'

section
variable {K : PySem.W.Frag} {ρ ρ' ρ'' : Rho} {H H' H'' : Hp} {S S' : Sto}
theorem RelWs.ext (e : Ext ρ H ρ' H') {ws : List W} {vs : List V} (h : RelWs K ρ H ws vs) : RelWs K ρ' H' ws vs := by
  induction h with
  | nil => exact .nil
  | cons r _ ih => exact .cons (r.ext e) ih
theorem RelWs.length {ws : List W} {vs : List V} (h : RelWs K ρ H ws vs) : ws.length = vs.length := by
  induction h with
  | nil => rfl
  | cons _ _ ih => simp [ih]
theorem RelWs.one {w : W} {vs : List V} (h : RelWs K ρ H [w] vs) : ∃ v, vs = [v] ∧ RelW K ρ H w v := by
  cases h with
  | cons r t => cases t; exact ⟨_, rfl, r⟩
theorem RelWs.two {w u : W} {vs : List V} (h : RelWs K ρ H [w, u] vs) : ∃ v x, vs = [v, x] ∧ RelW K ρ H w v ∧ RelW K ρ H u x := by
  cases h with
  | cons r t =>
    obtain ⟨x, rfl, q⟩ := t.one
    exact ⟨_, _, rfl, r, q⟩
end

section
variable {X : Cx} {e a b c : Expr} {pos : Pos}
theorem peImp {t t' : TE} (h : PE X e t) (i : ∀ σ H Q, t' σ H Q → t σ H Q) : PE X e t' := ⟨fun pins s σ H Q I q => h.run pins s σ H Q I (i σ H Q q)⟩
theorem ptImp {t t' : TT} (h : PT X e t) (i : ∀ σ H Q, t' σ H Q → t σ H Q) : PT X e t' := ⟨fun pins s σ H Q I q => h.run pins s σ H Q I (i σ H Q q)⟩
theorem paImp {es : List Expr} {t t' : TA} (h : PA X es t) (i : ∀ σ H Q, t' σ H Q → t σ H Q) : PA X es t' := ⟨fun pos pins s σ H Q I q => h.run pos pins s σ H Q I (i σ H Q q)⟩
theorem psImp {st : Stmt} {t t' : TS} (h : PS X st t) (i : ∀ D σ H, t' D σ H → t D σ H) : PS X st t' := ⟨fun pins s σ H D I q => h.run pins s σ H D I (i D σ H q)⟩
theorem pssImp {st : List Stmt} {t t' : TS} (h : PSs X st t) (i : ∀ D σ H, t' D σ H → t D σ H) : PSs X st t' := ⟨fun pins s σ H D I q => h.run pins s σ H D I (i D σ H q)⟩

abbrev PD (X : Cx) (e : Expr) (m : ME) : Prop := PE X e (tD X.K m)
abbrev PDT (X : Cx) (e : Expr) (m : MT) : Prop := PT X e (tDT X.K m)
abbrev PDA (X : Cx) (es : List Expr) (m : MA) : Prop := PA X es (tDA X.K m)

/-! names, constants -/
@[simp] def mVar (i : Nat) : ME := fun σ S => (σ[i]?.bind id).map fun w => (w, S)
theorem d_var (i : Nat) {x : Str} (hN : X.N[i]? = some x := by rfl) (hv : Vis X.env.scope x := by first | exact Or.inl rfl | exact Or.inr (Or.inl rfl) | exact Or.inr (Or.inr rfl)) (hd : (x == ("__debug__" : Str)) = false := by decide)
    (hcd : (x == ("__classdict__" : Str)) = false := by decide) : PD X (.Name x pos) (mVar i) := peImp (pv i hN hv hd hcd) fun σ H Q ⟨ρ, σd, S, w, S', hs, he, hm, q⟩ => by
  unfold mVar at hm
  rw [Option.map_eq_some_iff] at hm
  obtain ⟨w', h1, h2⟩ := hm
  cases h2
  obtain ⟨ow, h3, h4⟩ := Option.bind_eq_some_iff.mp h1
  have h4' : ow = some w := h4
  subst h4'
  obtain ⟨v, h5, h6⟩ := he.get i w h3
  exact ⟨v, h5, q ρ v H .refl hs h6⟩
@[simp] def mC (w : W) : ME := fun _ S => some (w, S)
abbrev mInt (i : Int) : ME := mC (.d (.int i))
abbrev mStr (x : Str) : ME := mC (.d (.str x))
abbrev mBool (b : Bool) : ME := mC (.d (.bool b))
abbrev mNone : ME := mC (.d .none)
theorem d_c {w : W} {v : V} (h : PE X e (tC v)) (hr : ∀ ρ H, RelW X.K ρ H w v) : PD X e (mC w) := peImp h fun σ H Q ⟨ρ, σd, S, w', S', hs, he, hm, q⟩ => by
  cases hm
  exact q ρ v H .refl hs (hr ρ H)
theorem d_int {i : Int} {j} : PD X (.Constant (.int i) j pos) (mInt i) := d_c pe_int fun _ _ => .int i
theorem d_bool {b : Bool} {j} : PD X (.Constant (.bool b) j pos) (mBool b) := d_c pe_bl fun _ _ => .bl b
theorem d_none {j} : PD X (.Constant .none j pos) mNone := d_c pe_non fun _ _ => .non
theorem d_str {x : Str} {j} : PD X (.Constant (.str x) j pos) (mStr x) := d_c pe_str fun _ _ => .str x
/-- a constant of the top -/
theorem d_glob {x : Str} {w : W} {v : V} {u : Value} (hg : Gl X x) (hm : X.mg x = some u) (r : RelV v u) (hr : ∀ ρ H, RelW X.K ρ H w v) (hd : (x == ("__debug__" : Str)) = false := by decide) : PD X (.Name x pos) (mC w) := d_c (pe_glob hg hm r hd) hr

/-! operations upon two values -/
abbrev G2 := Sto → W → W → Option W
def rD2 (K : PySem.W.Frag) (g : G2) : R2 := fun v u H Q => ∃ ρ S x y w, SRel ρ H S ∧ RelW K ρ H x v ∧ RelW K ρ H y u ∧ g S x y = some w ∧ ∀ ρ' z H', Ext ρ H ρ' H' → SRel ρ' H' S → RelW K ρ' H' w z → Q z H'
abbrev OpD (X : Cx) (f : Value → Value → Sem Value) (g : G2) : Prop := OpR X f (rD2 X.K g)
@[simp] def mBin (g : G2) (a b : ME) : ME := fun σ S => (a σ S).bind fun r => (b σ r.2).bind fun q => (g q.2 r.1 q.1).map fun w => (w, q.2)
theorem bin_of {K : PySem.W.Frag} {g : G2} {ma mb : ME} {σ : L2.St} {H : Hp} {Q : VK} (h : tD K (mBin g ma mb) σ H Q) : tOp (rD2 K g) (tD K ma) (tD K mb) σ H Q := by
  obtain ⟨ρ, σd, S, w, S', hs, he, hm, q⟩ := h
  unfold mBin at hm
  obtain ⟨⟨w1, S1⟩, h1, hm⟩ := Option.bind_eq_some_iff.mp hm
  obtain ⟨⟨w2, S2⟩, h2, hm⟩ := Option.bind_eq_some_iff.mp hm
  rw [Option.map_eq_some_iff] at hm
  obtain ⟨w', h3, h4⟩ := hm
  cases h4
  refine ⟨ρ, σd, S, w1, S1, hs, he, h1, fun ρ1 v1 H1 e1 s1 r1 => ⟨ρ1, σd, S1, w2, S2, s1, he.ext e1, h2, fun ρ2 v2 H2 e2 s2 r2 => ?_⟩⟩
  exact ⟨ρ2, S2, w1, w2, w, s2, r1.ext e2, r2, h3, fun ρ3 z H3 e3 s3 r3 => q ρ3 z H3 ((e1.trans e2).trans e3) s3 r3⟩
theorem d_bin {op : Operator} {g : G2} {ma mb : ME} (ho : OpD X (binaryOp op) g) (ha : PD X a ma) (hb : PD X b mb) : PD X (.BinOp a op b pos) (mBin g ma mb) :=
  peImp (pe_op ho ha hb) fun _ _ _ h => bin_of h
theorem d_cmp {op : CmpOp} {g : G2} {ma mb : ME} (ho : OpD X (compareOp op) g) (ha : PD X a ma) (hb : PD X b mb) (hm : behindInMarks op b = false) : PD X (.Compare a [op] [b] pos) (mBin g ma mb) :=
  peImp (pe_cmpR ho ha hb hm) fun _ _ _ h => bin_of h
/-- a value as a test -/
@[simp] def asB : W → Option Bool
  | .d (.bool b) => some b
  | _ => none
theorem asB_rel {K : PySem.W.Frag} {ρ : Rho} {H : Hp} {w : W} {v : V} {b : Bool} (h : asB w = some b) (r : RelW K ρ H w v) : v = .bl b := by
  cases w with
  | d x =>
    cases x with
    | bool c => cases h; cases r; rfl
    | _ => cases h
  | _ => cases h
@[simp] def mB (m : ME) : MT := fun σ S => (m σ S).bind fun r => (asB r.1).map fun b => (b, r.2)
theorem test_of {K : PySem.W.Frag} {m : ME} {t : TE} (i : ∀ σ H Q, tD K m σ H Q → t σ H Q) {σ : L2.St} {H : Hp} {Q : Bool → Hp → Prop} (h : tDT K (mB m) σ H Q) : tTest t σ H Q := by
  obtain ⟨ρ, σd, S, b, S', hs, he, hm, q⟩ := h
  obtain ⟨⟨w1, S1⟩, h1, hm⟩ := Option.bind_eq_some_iff.mp hm
  rw [Option.map_eq_some_iff] at hm
  obtain ⟨b', h3, h4⟩ := hm
  cases h4
  exact i _ _ _ ⟨ρ, σd, S, w1, S1, hs, he, h1, fun ρ1 v1 H1 e1 s1 r1 => ⟨b, asB_rel h3 r1, q ρ1 H1 e1 s1⟩⟩
theorem d_cmpT {op : CmpOp} {g : G2} {ma mb : ME} (ho : OpD X (compareOp op) g) (ha : PD X a ma) (hb : PD X b mb) (hm : behindInMarks op b = false) : PDT X (.Compare a [op] [b] pos) (mB (mBin g ma mb)) :=
  ptImp (pt_cmpR ho ha hb hm) fun _ _ _ h => test_of (fun _ _ _ => bin_of) h
/-- a < b < c -/
@[simp] def mChain (g g' : G2) (a b c : ME) : ME := fun σ S => (a σ S).bind fun r => (b σ r.2).bind fun q => (g q.2 r.1 q.1).bind fun w => (asB w).bind fun k =>
  if k = true then (c σ q.2).bind fun p => (g' p.2 q.1 p.1).map fun w => (w, p.2) else some (.d (.bool false), q.2)
theorem chain_of {K : PySem.W.Frag} {g g' : G2} {ma mb mc : ME} {σ : L2.St} {H : Hp} {Q : VK} (h : tD K (mChain g g' ma mb mc) σ H Q) : tChain (rD2 K g) (rD2 K g') (tD K ma) (tD K mb) (tD K mc) σ H Q := by
  obtain ⟨ρ, σd, S, w, S', hs, he, hm, q⟩ := h
  unfold mChain at hm
  obtain ⟨⟨w1, S1⟩, h1, hm⟩ := Option.bind_eq_some_iff.mp hm
  obtain ⟨⟨w2, S2⟩, h2, hm⟩ := Option.bind_eq_some_iff.mp hm
  obtain ⟨w', h3, hm⟩ := Option.bind_eq_some_iff.mp hm
  obtain ⟨k, hk, hm⟩ := Option.bind_eq_some_iff.mp hm
  refine ⟨ρ, σd, S, w1, S1, hs, he, h1, fun ρ1 v1 H1 e1 s1 r1 => ⟨ρ1, σd, S1, w2, S2, s1, he.ext e1, h2, fun ρ2 v2 H2 e2 s2 r2 => ?_⟩⟩
  refine ⟨ρ2, S2, w1, w2, w', s2, r1.ext e2, r2, h3, fun ρ3 z H3 e3 s3 r3 => ⟨k, asB_rel hk r3, ?_⟩⟩
  cases k with
  | false =>
    rw [if_neg Bool.false_ne_true] at hm ⊢
    cases hm
    exact q ρ3 _ H3 ((e1.trans e2).trans e3) s3 (.bl false)
  | true =>
    rw [if_pos rfl] at hm ⊢
    obtain ⟨⟨w4, S4⟩, h4, hm⟩ := Option.bind_eq_some_iff.mp hm
    rw [Option.map_eq_some_iff] at hm
    obtain ⟨w5, h5, h6⟩ := hm
    cases h6
    refine ⟨ρ3, σd, S2, w4, S4, s3, he.ext ((e1.trans e2).trans e3), h4, fun ρ4 v4 H4 e4 s4 r4 => ?_⟩
    exact ⟨ρ4, S4, w2, w4, w, s4, r2.ext (e3.trans e4), r4, h5, fun ρ5 z5 H5 e5 s5 r5 => q ρ5 z5 H5 ((((e1.trans e2).trans e3).trans e4).trans e5) s5 r5⟩
theorem d_chain {op op' : CmpOp} {g g' : G2} {ma mb mc : ME} (ho : OpD X (compareOp op) g) (ho' : OpD X (compareOp op') g') (ha : PD X a ma) (hb : PD X b mb) (hc : PD X c mc)
    (hm : lastMarks [op, op'] [b, c] = false := by with_unfolding_all rfl) : PD X (.Compare a [op, op'] [b, c] pos) (mChain g g' ma mb mc) := peImp (pe_chain ho ho' ha hb hc hm) fun _ _ _ h => chain_of h
theorem d_chainT {op op' : CmpOp} {g g' : G2} {ma mb mc : ME} (ho : OpD X (compareOp op) g) (ho' : OpD X (compareOp op') g') (ha : PD X a ma) (hb : PD X b mb) (hc : PD X c mc)
    (hm : lastMarks [op, op'] [b, c] = false := by with_unfolding_all rfl) : PDT X (.Compare a [op, op'] [b, c] pos) (mB (mChain g g' ma mb mc)) := ptImp (pt_chain ho ho' ha hb hc hm) fun _ _ _ h => test_of (fun _ _ _ => chain_of) h
/-- an expression that gives a truth value, as a test -/
theorem d_valT {m : ME} (h : PD X e m) (he : ∀ whole, isTrue e X.env whole = (do let v ← whole; standAt e.pos; holding [v] (truthy v)) := by intro _; rfl) : PDT X e (mB m) :=
  ptImp (pt_val h he) fun _ _ _ h => test_of (fun _ _ _ h => h) h

/-! and, or, not -/
abbrev PDW (X : Cx) (e : Expr) (m : MT) : Prop := PW X e (tDT X.K m)
theorem pwImp {t t' : TT} (h : PW X e t) (i : ∀ σ H Q, t' σ H Q → t σ H Q) : PW X e t' := ⟨fun wh pins s σ H Q I q => h.run wh pins s σ H Q I (i σ H Q q)⟩
@[simp] def mAndT (a b : MT) : MT := fun σ S => (a σ S).bind fun r => if r.1 = true then b σ r.2 else some (false, r.2)
@[simp] def mOrT (a b : MT) : MT := fun σ S => (a σ S).bind fun r => if r.1 = true then some (true, r.2) else b σ r.2
@[simp] def mNotT (a : MT) : MT := fun σ S => (a σ S).map fun r => (!r.1, r.2)
variable {rest : List Expr}
theorem d_and1 {ma : MT} (ha : PDT X a ma) : PDW X (.BoolOp .And [a] pos) ma := pw_and1 ha
theorem d_or1 {ma : MT} (ha : PDT X a ma) : PDW X (.BoolOp .Or [a] pos) ma := pw_or1 ha
theorem d_andT {ma mb : MT} (ha : PDT X a ma) (hb : PDW X (.BoolOp .And (b :: rest) pos) mb) : PDW X (.BoolOp .And (a :: b :: rest) pos) (mAndT ma mb) :=
  pwImp (pw_and ha hb) fun σ H Q ⟨ρ, σd, S, k, S', hs, he, hm, q⟩ => by
    obtain ⟨⟨k1, S1⟩, h1, hm⟩ := Option.bind_eq_some_iff.mp hm
    refine ⟨ρ, σd, S, k1, S1, hs, he, h1, fun ρ1 H1 e1 s1 => ?_⟩
    cases k1 with
    | true =>
      rw [if_pos rfl] at hm ⊢
      exact ⟨ρ1, σd, S1, k, S', s1, he.ext e1, hm, fun ρ2 H2 e2 s2 => q ρ2 H2 (e1.trans e2) s2⟩
    | false =>
      rw [if_neg Bool.false_ne_true] at hm ⊢
      cases hm
      exact q ρ1 H1 e1 s1
theorem d_orT {ma mb : MT} (ha : PDT X a ma) (hb : PDW X (.BoolOp .Or (b :: rest) pos) mb) : PDW X (.BoolOp .Or (a :: b :: rest) pos) (mOrT ma mb) :=
  pwImp (pw_or ha hb) fun σ H Q ⟨ρ, σd, S, k, S', hs, he, hm, q⟩ => by
    obtain ⟨⟨k1, S1⟩, h1, hm⟩ := Option.bind_eq_some_iff.mp hm
    refine ⟨ρ, σd, S, k1, S1, hs, he, h1, fun ρ1 H1 e1 s1 => ?_⟩
    cases k1 with
    | false =>
      rw [if_neg Bool.false_ne_true] at hm ⊢
      exact ⟨ρ1, σd, S1, k, S', s1, he.ext e1, hm, fun ρ2 H2 e2 s2 => q ρ2 H2 (e1.trans e2) s2⟩
    | true =>
      rw [if_pos rfl] at hm ⊢
      cases hm
      exact q ρ1 H1 e1 s1
theorem d_w {m : MT} (h : PDW X e m) : PDT X e m := h.pt
theorem d_notT {ma : MT} (ha : PDT X a ma) : PDT X (.UnaryOp .Not a pos) (mNotT ma) := ptImp (pt_not ha) fun σ H Q ⟨ρ, σd, S, k, S', hs, he, hm, q⟩ => by
  unfold mNotT at hm
  rw [Option.map_eq_some_iff] at hm
  obtain ⟨⟨k1, S1⟩, h1, h2⟩ := hm
  cases h2
  exact ⟨ρ, σd, S, k1, S1, hs, he, h1, fun ρ1 H1 e1 s1 => q ρ1 H1 e1 s1⟩
/-- .. as values -/
@[simp] def mAnd (a b : ME) : ME := fun σ S => (a σ S).bind fun r => (asB r.1).bind fun k => if k = true then b σ r.2 else some (.d (.bool false), r.2)
@[simp] def mOr (a b : ME) : ME := fun σ S => (a σ S).bind fun r => (asB r.1).bind fun k => if k = true then some (.d (.bool true), r.2) else b σ r.2
@[simp] def mNot (a : ME) : ME := fun σ S => (a σ S).bind fun r => (asB r.1).map fun k => (.d (.bool (!k)), r.2)
theorem d_one {op} {m : ME} (h : PD X a m) : PD X (.BoolOp op [a] pos) m := pe_one h
theorem d_and {ma mb : ME} (ha : PD X a ma) (hb : PD X (.BoolOp .And (b :: rest) pos) mb) : PD X (.BoolOp .And (a :: b :: rest) pos) (mAnd ma mb) :=
  peImp (pe_and ha hb) fun σ H Q ⟨ρ, σd, S, w, S', hs, he, hm, q⟩ => by
    obtain ⟨⟨w1, S1⟩, h1, hm⟩ := Option.bind_eq_some_iff.mp hm
    obtain ⟨k, hk, hm⟩ := Option.bind_eq_some_iff.mp hm
    refine ⟨ρ, σd, S, w1, S1, hs, he, h1, fun ρ1 v1 H1 e1 s1 r1 => ⟨k, asB_rel hk r1, ?_⟩⟩
    cases k with
    | true =>
      rw [if_pos rfl] at hm ⊢
      exact ⟨ρ1, σd, S1, w, S', s1, he.ext e1, hm, fun ρ2 z H2 e2 s2 r2 => q ρ2 z H2 (e1.trans e2) s2 r2⟩
    | false =>
      rw [if_neg Bool.false_ne_true] at hm ⊢
      cases hm
      exact q ρ1 _ H1 e1 s1 (.bl false)
theorem d_or {ma mb : ME} (ha : PD X a ma) (hb : PD X (.BoolOp .Or (b :: rest) pos) mb) : PD X (.BoolOp .Or (a :: b :: rest) pos) (mOr ma mb) :=
  peImp (pe_or ha hb) fun σ H Q ⟨ρ, σd, S, w, S', hs, he, hm, q⟩ => by
    obtain ⟨⟨w1, S1⟩, h1, hm⟩ := Option.bind_eq_some_iff.mp hm
    obtain ⟨k, hk, hm⟩ := Option.bind_eq_some_iff.mp hm
    refine ⟨ρ, σd, S, w1, S1, hs, he, h1, fun ρ1 v1 H1 e1 s1 r1 => ⟨k, asB_rel hk r1, ?_⟩⟩
    cases k with
    | false =>
      rw [if_neg Bool.false_ne_true] at hm ⊢
      exact ⟨ρ1, σd, S1, w, S', s1, he.ext e1, hm, fun ρ2 z H2 e2 s2 r2 => q ρ2 z H2 (e1.trans e2) s2 r2⟩
    | true =>
      rw [if_pos rfl] at hm ⊢
      cases hm
      exact q ρ1 _ H1 e1 s1 (.bl true)
theorem d_not {ma : ME} (ha : PD X a ma) : PD X (.UnaryOp .Not a pos) (mNot ma) := peImp (pe_not ha) fun σ H Q ⟨ρ, σd, S, w, S', hs, he, hm, q⟩ => by
  obtain ⟨⟨w1, S1⟩, h1, hm⟩ := Option.bind_eq_some_iff.mp hm
  rw [Option.map_eq_some_iff] at hm
  obtain ⟨k, hk, h2⟩ := hm
  cases h2
  exact ⟨ρ, σd, S, w1, S1, hs, he, h1, fun ρ1 v1 H1 e1 s1 r1 => ⟨k, asB_rel hk r1, q ρ1 _ H1 e1 s1 (.bl _)⟩⟩
@[simp] def mIf (t : MT) (a b : ME) : ME := fun σ S => (t σ S).bind fun r => if r.1 = true then a σ r.2 else b σ r.2
theorem d_if {mt : MT} {ma mb : ME} (hc : PDT X c mt) (ha : PD X a ma) (hb : PD X b mb) : PD X (.IfExp c a b pos) (mIf mt ma mb) :=
  peImp (pe_ifExp hc ha hb) fun σ H Q ⟨ρ, σd, S, w, S', hs, he, hm, q⟩ => by
    obtain ⟨⟨k, S1⟩, h1, hm⟩ := Option.bind_eq_some_iff.mp hm
    refine ⟨ρ, σd, S, k, S1, hs, he, h1, fun ρ1 H1 e1 s1 => ?_⟩
    cases k with
    | true =>
      rw [if_pos rfl] at hm ⊢
      exact ⟨ρ1, σd, S1, w, S', s1, he.ext e1, hm, fun ρ2 z H2 e2 s2 r2 => q ρ2 z H2 (e1.trans e2) s2 r2⟩
    | false =>
      rw [if_neg Bool.false_ne_true] at hm ⊢
      exact ⟨ρ1, σd, S1, w, S', s1, he.ext e1, hm, fun ρ2 z H2 e2 s2 r2 => q ρ2 z H2 (e1.trans e2) s2 r2⟩

/-! operations upon one value -/
abbrev G1 := Sto → W → Option W
def rD1 (K : PySem.W.Frag) (g : G1) : V → Hp → VK → Prop := fun v H Q => ∃ ρ S x w, SRel ρ H S ∧ RelW K ρ H x v ∧ g S x = some w ∧ ∀ ρ' z H', Ext ρ H ρ' H' → SRel ρ' H' S → RelW K ρ' H' w z → Q z H'
abbrev UnD (X : Cx) (f : Value → Sem Value) (g : G1) : Prop := UnR X f (rD1 X.K g)
@[simp] def mUn (g : G1) (a : ME) : ME := fun σ S => (a σ S).bind fun r => (g r.2 r.1).map fun w => (w, r.2)
theorem d_un {op : UnaryOp} {g : G1} {ma : ME} (ho : UnD X (unaryOp op) g) (ha : PD X a ma) : PD X (.UnaryOp op a pos) (mUn g ma) := peImp (pe_un ho ha) fun σ H Q ⟨ρ, σd, S, w, S', hs, he, hm, q⟩ => by
  unfold mUn at hm
  obtain ⟨⟨w1, S1⟩, h1, hm⟩ := Option.bind_eq_some_iff.mp hm
  rw [Option.map_eq_some_iff] at hm
  obtain ⟨w', h3, h4⟩ := hm
  cases h4
  exact ⟨ρ, σd, S, w1, S1, hs, he, h1, fun ρ1 v1 H1 e1 s1 r1 => ⟨ρ1, S1, w1, w, s1, r1, h3, fun ρ2 z H2 e2 s2 r2 => q ρ2 z H2 (e1.trans e2) s2 r2⟩⟩

/-! arguments -/
@[simp] def mNil : MA := fun _ S => some ([], S)
@[simp] def mCons (a : ME) (r : MA) : MA := fun σ S => (a σ S).bind fun p => (r σ p.2).map fun q => (p.1 :: q.1, q.2)
theorem da_nil : PDA X [] mNil := paImp pa_nil fun σ H Q ⟨ρ, σd, S, w, S', hs, he, hm, q⟩ => by
  cases hm
  exact q ρ _ H .refl hs .nil
theorem da_cons {es : List Expr} {ma : ME} {mr : MA} (ha : PD X a ma) (hr : PDA X es mr) (hs : starEach (a :: es) X.env = (false, eval a X.env) :: starEach es X.env := by rfl) : PDA X (a :: es) (mCons ma mr) :=
  paImp (pa_cons ha hr hs) fun σ H Q ⟨ρ, σd, S, w, S', hs, he, hm, q⟩ => by
    obtain ⟨⟨w1, S1⟩, h1, hm⟩ := Option.bind_eq_some_iff.mp hm
    rw [Option.map_eq_some_iff] at hm
    obtain ⟨⟨ws, S2⟩, h2, h3⟩ := hm
    cases h3
    exact ⟨ρ, σd, S, w1, S1, hs, he, h1, fun ρ1 v1 H1 e1 s1 r1 => ⟨ρ1, σd, S1, ws, _, s1, he.ext e1, h2, fun ρ2 vs H2 e2 s2 r2 => q ρ2 _ H2 (e1.trans e2) s2 (.cons (r1.ext e2) r2)⟩⟩

/-! tuples and lists, written -/
@[simp] def asD1 : W → Option D
  | .d x => some x
  | _ => none
@[simp] def asDs : List W → Option (List D)
  | [] => some []
  | w :: ws => (asD1 w).bind fun d => (asDs ws).map fun ds => d :: ds
theorem asDs_rel {K : PySem.W.Frag} {ρ : Rho} {H : Hp} : ∀ {ws : List W} {vs : List V} {ds : List D}, asDs ws = some ds → RelWs K ρ H ws vs → RepL ρ H ds vs
  | [], _, _, h, r => by cases h; cases r; exact .nil
  | w :: ws, _, _, h, r => by
    cases r with
    | cons r1 r2 =>
      obtain ⟨d, h1, h2⟩ := Option.bind_eq_some_iff.mp h
      rw [Option.map_eq_some_iff] at h2
      obtain ⟨ds, h3, h4⟩ := h2
      cases h4
      cases w with
      | d x => cases h1; exact .cons r1 (asDs_rel h3 r2)
      | _ => cases h1
theorem asDs_len : ∀ {ws : List W} {ds : List D}, asDs ws = some ds → ds.length = ws.length
  | [], _, h => by cases h; rfl
  | w :: ws, _, h => by
    obtain ⟨d, h1, h2⟩ := Option.bind_eq_some_iff.mp h
    rw [Option.map_eq_some_iff] at h2
    obtain ⟨ds, h3, h4⟩ := h2
    cases h4
    simp [asDs_len h3]
def fits (n : Nat) : Bool := decide (n ≤ 16777216)
theorem fits_ok {n : Nat} (h : fits n = true) : n ≤ sizeLine := by rw [sizeLine_eq]; exact of_decide_eq_true h
theorem fits_lt {n : Nat} (h : fits (n + 1) = true) : n < sizeLine := by rw [sizeLine_eq]; have := of_decide_eq_true h; omega
@[simp] def mTup (m : MA) : ME := fun σ S => (m σ S).bind fun r => (asDs r.1).bind fun ds => if fits ds.length = true then some (.d (.tuple ds), r.2) else none
@[simp] def mLst (m : MA) : ME := fun σ S => (m σ S).bind fun r => (asDs r.1).bind fun ds => if fits ds.length = true then some (.d (.list ds), r.2) else none
/-- a list that is to be changed -/
@[simp] def mNew (m : MA) : ME := fun σ S => (m σ S).bind fun r => (asDs r.1).bind fun ds => if fits ds.length = true then some (.loc r.2.length, r.2 ++ [.lst ds]) else none
theorem some_if {α : Type} {c : Bool} {x y : α} (h : (if c = true then some x else none) = some y) : c = true ∧ x = y := by
  cases c with
  | true => exact ⟨rfl, Option.some.inj h⟩
  | false => cases h
variable {es : List Expr}
theorem d_tup {x1} {m : MA} (h : PDA X es m) : PD X (.Tuple es x1 pos) (mTup m) := peImp (pe_tup h) fun σ H Q ⟨ρ, σd, S, w, S', hs, he, hm, q⟩ => by
  obtain ⟨⟨ws, S1⟩, h1, hm⟩ := Option.bind_eq_some_iff.mp hm
  obtain ⟨ds, hd, hm⟩ := Option.bind_eq_some_iff.mp hm
  obtain ⟨hf, hm⟩ := some_if hm
  cases hm
  refine ⟨ρ, σd, S, ws, S1, hs, he, h1, fun ρ1 vs H1 e1 s1 r1 => ?_⟩
  have r := asDs_rel hd r1
  refine ⟨by rw [← r.length]; exact fits_ok hf, fun p hp => q ρ1 _ _ (e1.trans (Ext.new hp)) (s1.new hp) ?_⟩
  exact .tup upd_same (s1.fresh hp) (r.ext (Ext.new hp))
theorem d_lst {m : MA} (h : PDA X es m) : PD X (.List es pos) (mLst m) := peImp (pe_lst h) fun σ H Q ⟨ρ, σd, S, w, S', hs, he, hm, q⟩ => by
  obtain ⟨⟨ws, S1⟩, h1, hm⟩ := Option.bind_eq_some_iff.mp hm
  obtain ⟨ds, hd, hm⟩ := Option.bind_eq_some_iff.mp hm
  obtain ⟨hf, hm⟩ := some_if hm
  cases hm
  refine ⟨ρ, σd, S, ws, S1, hs, he, h1, fun ρ1 vs H1 e1 s1 r1 => ?_⟩
  have r := asDs_rel hd r1
  refine ⟨by rw [← r.length]; exact fits_ok hf, fun p hp => q ρ1 _ _ (e1.trans (Ext.new hp)) (s1.new hp) ?_⟩
  exact .lst upd_same (s1.fresh hp) (r.ext (Ext.new hp))
theorem new_loc {K : PySem.W.Frag} {ρ : Rho} {H0 H : Hp} {S : Sto} {p : Addr} (s : SRel ρ H0 S) : RelW K (ρ.add p) H (.loc S.length) (.ref p) := by
  refine ⟨by simp [s.len, Rho.add], fun a ha => ?_⟩
  have ha : (ρ.l ++ [some p])[S.length]? = some (some a) := ha
  rw [← s.len, List.getElem?_append_right (Nat.le_refl _)] at ha
  simp at ha
  rw [ha]
theorem d_new {m : MA} (h : PDA X es m) : PD X (.List es pos) (mNew m) := peImp (pe_lst h) fun σ H Q ⟨ρ, σd, S, w, S', hs, he, hm, q⟩ => by
  obtain ⟨⟨ws, S1⟩, h1, hm⟩ := Option.bind_eq_some_iff.mp hm
  obtain ⟨ds, hd, hm⟩ := Option.bind_eq_some_iff.mp hm
  obtain ⟨hf, hm⟩ := some_if hm
  cases hm
  refine ⟨ρ, σd, S, ws, S1, hs, he, h1, fun ρ1 vs H1 e1 s1 r1 => ?_⟩
  have r := asDs_rel hd r1
  refine ⟨by rw [← r.length]; exact fits_ok hf, fun p hp => q (ρ1.add p) _ _ (e1.trans (Ext.alloc s1 hp)) (s1.alloc hp ?_) (new_loc s1)⟩
  exact ⟨vs, upd_same, r.ext (Ext.alloc s1 hp)⟩
/-- a dict that is to be changed, of plain keys, of tuples -/
@[simp] def mNewK : ME := fun _ S => some (.loc S.length, S ++ [.dK []])
@[simp] def mNewT : ME := fun _ S => some (.loc S.length, S ++ [.dT []])
theorem d_newK : PD X (.Dict [] [] pos) mNewK := peImp pe_dnewK fun σ H Q ⟨ρ, σd, S, w, S', hs, he, hm, q⟩ => by
  cases hm
  exact fun p hp => q (ρ.add p) _ _ (Ext.alloc hs hp) (hs.alloc hp ⟨[], upd_same, .nil⟩) (new_loc hs)
theorem d_newT : PD X (.Dict [] [] pos) mNewT := peImp pe_dnewT fun σ H Q ⟨ρ, σd, S, w, S', hs, he, hm, q⟩ => by
  cases hm
  exact fun p hp => q (ρ.add p) _ _ (Ext.alloc hs hp) (hs.alloc hp ⟨[], upd_same, .nil⟩) (new_loc hs)
/-- a ghost step: what was mutable is data from here on -/
def frz (S : Sto) : W → Option (W × Sto)
  | .loc i => match S[i]? with
    | some (.lst xs) => some (.d (.list xs), S.set i .dead)
    | some (.dK kvs) => some (.kd false kvs, S.set i .dead)
    | some (.dT kvs) => some (.td false kvs, S.set i .dead)
    | _ => none
  | .kd b kvs => some (.kd b kvs, S)
  | .td b kvs => some (.td b kvs, S)
  | .d x => some (.d x, S)
  | _ => none
theorem frz_ok {K : PySem.W.Frag} {ρ : Rho} {H : Hp} {S S' : Sto} {w w' : W} {v : V} (s : SRel ρ H S) (r : RelW K ρ H w v) (h : frz S w = some (w', S')) : ∃ ρ', Ext ρ H ρ' H ∧ SRel ρ' H S' ∧ RelW K ρ' H w' v := by
  cases w with
  | loc i =>
    simp only [frz] at h
    split at h
    · rename_i xs e
      cases h
      obtain ⟨a, vs, rfl, h1, h2, h3⟩ := s.lst_at r e
      exact ⟨ρ.kill i, Ext.freeze, s.freeze, .lst h2 (s.notin h1) (h3.ext Ext.freeze)⟩
    · rename_i kvs e
      cases h
      obtain ⟨a, q⟩ := s.live i _ e (by intro z; cases z)
      obtain ⟨o, h1, h2⟩ := s.obj i a q
      rw [e] at h1; cases h1
      obtain ⟨us, h3, h4⟩ := h2
      exact ⟨ρ.kill i, Ext.freeze, s.freeze, a, us, r.2 a q, s.notin q, .inl h3, fun z => (by cases z), h4.ext Ext.freeze⟩
    · rename_i kvs e
      cases h
      obtain ⟨a, q⟩ := s.live i _ e (by intro z; cases z)
      obtain ⟨o, h1, h2⟩ := s.obj i a q
      rw [e] at h1; cases h1
      obtain ⟨us, h3, h4⟩ := h2
      exact ⟨ρ.kill i, Ext.freeze, s.freeze, a, us, r.2 a q, s.notin q, .inl h3, fun z => (by cases z), h4.ext Ext.freeze⟩
    · cases h
  | kd b kvs => cases h; exact ⟨ρ, Ext.refl, s, r⟩
  | td b kvs => cases h; exact ⟨ρ, Ext.refl, s, r⟩
  | d x => cases h; exact ⟨ρ, Ext.refl, s, r⟩
  | _ => cases h
def mFrz (a : ME) : ME := fun σ S => (a σ S).bind fun r => frz r.2 r.1
theorem d_frz {m : ME} (h : PD X e m) : PD X e (mFrz m) := peImp h fun σ H Q ⟨ρ, σd, S, w, S', hs, he, hm, q⟩ => by
  obtain ⟨⟨w1, S1⟩, h1, hm⟩ := Option.bind_eq_some_iff.mp hm
  refine ⟨ρ, σd, S, w1, S1, hs, he, h1, fun ρ1 v1 H1 e1 s1 r1 => ?_⟩
  obtain ⟨ρ2, e2, s2, r2⟩ := frz_ok s1 r1 hm
  exact q ρ2 v1 H1 (e1.trans e2) s2 r2
/-- data becomes mutable: a new list that nobody holds (a comprehension, a slice ..) -/
def thaw (S : Sto) : W → Option (W × Sto)
  | _ => none

/-! calls of what is built in -/
abbrev GC := Sto → List W → Option (W × Sto)
def rDC (K : PySem.W.Frag) (g : GC) : List V → Hp → VK → Prop := fun vs H Q => ∃ ρ S ws w S', SRel ρ H S ∧ RelWs K ρ H ws vs ∧ g S ws = some (w, S') ∧ ∀ ρ' z H', Ext ρ H ρ' H' → SRel ρ' H' S' → RelW K ρ' H' w z → Q z H'
abbrev CallD (X : Cx) (f : Value) (g : GC) : Prop := CallR X f (rDC X.K g)
@[simp] def mCall (g : GC) (m : MA) : ME := fun σ S => (m σ S).bind fun r => g r.2 r.1
theorem call_of {K : PySem.W.Frag} {g : GC} {m : MA} {σ : L2.St} {H : Hp} {Q : VK} (h : tD K (mCall g m) σ H Q) : tCB (rDC K g) (tDA K m) σ H Q := by
  obtain ⟨ρ, σd, S, w, S', hs, he, hm, q⟩ := h
  obtain ⟨⟨ws, S1⟩, h1, hm⟩ := Option.bind_eq_some_iff.mp hm
  exact ⟨ρ, σd, S, ws, S1, hs, he, h1, fun ρ1 vs H1 e1 s1 r1 => ⟨ρ1, S1, ws, w, S', s1, r1, hm, fun ρ2 z H2 e2 s2 r2 => q ρ2 z H2 (e1.trans e2) s2 r2⟩⟩
theorem d_callB {x : Str} {id : String} {g : GC} {p : Pos} {m : MA} (hc : CallD X (.builtin id) g) (hg : Gl X x) (hm : X.mg x = none) (hv : bootBuiltins x = some (.builtin id)) (ha : PDA X (e :: es) m) (hn : x ≠ "__name__" := by decide) (hdb : (x == ("__debug__" : Str)) = false := by decide)
    (he : starEach (e :: es) X.env = (false, eval e X.env) :: starEach es X.env := by rfl) (hpl : (backTo pos (starEach es X.env)).any (·.1) = false := by rfl) : PD X (.Call (.Name x p) (e :: es) [] pos) (mCall g m) :=
  peImp (pe_callB hc hg hm hv ha hn hdb he hpl) fun _ _ _ h => call_of h
theorem d_callTy {x : Str} {T : String} {g : GC} {p : Pos} {m : MA} (hc : CallD X (.type T) g) (hg : Gl X x) (hm : X.mg x = none) (hv : bootBuiltins x = some (.type T)) (ha : PDA X (e :: es) m) (hn : x ≠ "__name__" := by decide) (hdb : (x == ("__debug__" : Str)) = false := by decide)
    (he : starEach (e :: es) X.env = (false, eval e X.env) :: starEach es X.env := by rfl) (hpl : (backTo pos (starEach es X.env)).any (·.1) = false := by rfl) : PD X (.Call (.Name x p) (e :: es) [] pos) (mCall g m) :=
  peImp (pe_callTy hc hg hm hv ha hn hdb he hpl) fun _ _ _ h => call_of h

/-! subscripts -/
abbrev IxD (X : Cx) (g : G2) : Prop := IxR X (rD2 X.K g)
theorem d_ix {g : G2} {ma mb : ME} (hr : IxD X g) (ha : PD X a ma) (hb : PD X b mb) (hs : PlainIx b) : PD X (.Subscript a b pos) (mBin g ma mb) := peImp (pe_ix hr ha hb hs) fun _ _ _ h => bin_of h
end
end DL

set_option Elab.async false
set_option linter.all false
set_option maxRecDepth 100000
set_option autoImplicit false
/-! The data layer, 3: statements, loops, comprehensions, defs. -/
noncomputable section
namespace DL
open PySem PySem.Spec PyProof.Rows L2

inductive Out where
  | nx (σ : Env) (S : Sto) | rt (w : W) (S : Sto) | bk (σ : Env) (S : Sto) | ct (σ : Env) (S : Sto)
abbrev MS := Env → Sto → Option Out

def OutOk (K : PySem.W.Frag) (ρ : Rho) (H : Hp) (D : Ends) : Out → Prop
  | .nx σd S => ∀ ρ' σ' H', Ext ρ H ρ' H' → SRel ρ' H' S → RelE K ρ' H' σd σ' → D.nx σ' H'
  | .bk σd S => ∀ ρ' σ' H', Ext ρ H ρ' H' → SRel ρ' H' S → RelE K ρ' H' σd σ' → D.bk σ' H'
  | .ct σd S => ∀ ρ' σ' H', Ext ρ H ρ' H' → SRel ρ' H' S → RelE K ρ' H' σd σ' → D.ct σ' H'
  | .rt w S => ∀ ρ' v H', Ext ρ H ρ' H' → SRel ρ' H' S → RelW K ρ' H' w v → D.rt v H'
theorem OutOk.ext {K : PySem.W.Frag} {ρ ρ' : Rho} {H H' : Hp} {D : Ends} (e : Ext ρ H ρ' H') {o : Out} (h : OutOk K ρ H D o) : OutOk K ρ' H' D o := by
  cases o <;> exact fun ρ2 x H2 e2 => h ρ2 x H2 (e.trans e2)
def sD (K : PySem.W.Frag) (m : MS) : TS := fun D σ H => ∃ ρ σd S out, SRel ρ H S ∧ RelE K ρ H σd σ ∧ m σd S = some out ∧ OutOk K ρ H D out

theorem RelE.set {K : PySem.W.Frag} {ρ : Rho} {H : Hp} {σd : Env} {σ : L2.St} {w : W} {v : V} (h : RelE K ρ H σd σ) (r : RelW K ρ H w v) (i : Nat) : RelE K ρ H (σd.set i (some w)) (σ.set i (some v)) := by
  refine ⟨by simp [h.len], fun j u e => ?_⟩
  by_cases hj : i = j
  · subst hj
    rw [List.getElem?_set] at e
    rw [if_pos rfl] at e
    split at e
    · rename_i hl
      cases e
      exact ⟨v, by rw [List.getElem?_set_self (by rw [← h.len]; exact hl)], r⟩
    · cases e
  · rw [List.getElem?_set_ne hj] at e
    obtain ⟨x, h1, h2⟩ := h.get j u e
    exact ⟨x, by rw [List.getElem?_set_ne hj]; exact h1, h2⟩

section
variable {X : Cx} {e a b c : Expr} {pos : Pos} {st : Stmt} {rest : List Stmt} {es : List Expr}
abbrev PDS (X : Cx) (st : Stmt) (m : MS) : Prop := PS X st (sD X.K m)
abbrev PDSs (X : Cx) (st : List Stmt) (m : MS) : Prop := PSs X st (sD X.K m)

/-! blocks -/
@[simp] def mSkip : MS := fun σ S => some (.nx σ S)
@[simp] def mSeq (a b : MS) : MS := fun σ S => (a σ S).bind fun o => match o with
  | .nx σ1 S1 => b σ1 S1
  | o => some o
theorem ds_nil : PDSs X [] mSkip := pssImp pss_nil fun D σ H ⟨ρ, σd, S, out, hs, he, hm, q⟩ => by
  cases hm
  exact q ρ σ H .refl hs he
theorem seq_of {K : PySem.W.Frag} {ma mb : MS} {D : Ends} {σ : L2.St} {H : Hp} (h : sD K (mSeq ma mb) D σ H) : tSeq (sD K ma) (sD K mb) D σ H := by
  obtain ⟨ρ, σd, S, out, hs, he, hm, q⟩ := h
  obtain ⟨o, h1, hm⟩ := Option.bind_eq_some_iff.mp hm
  refine ⟨ρ, σd, S, o, hs, he, h1, ?_⟩
  cases o with
  | nx σ1 S1 => exact fun ρ1 σ' H1 e1 s1 r1 => ⟨ρ1, σ1, S1, out, s1, r1, hm, q.ext e1⟩
  | rt w S1 => cases hm; exact q
  | bk σ1 S1 => cases hm; exact q
  | ct σ1 S1 => cases hm; exact q
theorem ds_cons {ma mb : MS} (h1 : PDS X st ma) (h2 : PDSs X rest mb) : PDSs X (st :: rest) (mSeq ma mb) := pssImp (pss_cons h1 h2) fun _ _ _ h => seq_of h
theorem ds_one {ma : MS} (h1 : PDS X st ma) : PDSs X [st] ma := pss_one h1
theorem ds_never {sts : List Stmt} : PDSs X sts (fun _ _ => none) := pssImp pss_never fun D σ H ⟨ρ, σd, S, out, hs, he, hm, q⟩ => by cases hm
theorem d_never : PDS X st (fun _ _ => none) := psImp ps_never fun D σ H ⟨ρ, σd, S, out, hs, he, hm, q⟩ => by cases hm
/-- a ghost step: a name's object is frozen -/
def mFrzV (i : Nat) : MS := fun σ S => (σ[i]?.bind id).bind fun w => (frz S w).map fun r => .nx (σ.set i (some r.1)) r.2
theorem ds_frz {i : Nat} {m : MS} (h : PDSs X rest m) : PDSs X rest (mSeq (mFrzV i) m) := pssImp h fun D σ H ⟨ρ, σd, S, out, hs, he, hm, q⟩ => by
  obtain ⟨o, h1, hm⟩ := Option.bind_eq_some_iff.mp hm
  obtain ⟨w, h2, h1⟩ := Option.bind_eq_some_iff.mp h1
  rw [Option.map_eq_some_iff] at h1
  obtain ⟨⟨w', S1⟩, h3, h4⟩ := h1
  cases h4
  obtain ⟨ow, h5, h6⟩ := Option.bind_eq_some_iff.mp h2
  have h6' : ow = some w := h6
  subst h6'
  obtain ⟨v, h7, r⟩ := he.get i w h5
  obtain ⟨ρ1, e1, s1, r1⟩ := frz_ok hs r h3
  have hset : σ.set i (some v) = σ := by
    obtain ⟨hl, hv⟩ := List.getElem?_eq_some_iff.mp h7
    rw [← hv, List.set_getElem_self]
  have he1 := (he.ext e1).set r1 i
  rw [hset] at he1
  exact ⟨ρ1, _, S1, out, s1, he1, hm, q.ext e1⟩

/-! small statements -/
@[simp] def mAsg (i : Nat) (m : ME) : MS := fun σ S => (m σ S).map fun r => .nx (σ.set i (some r.1)) r.2
theorem asg_of {K : PySem.W.Frag} {i : Nat} {m : ME} {D : Ends} {σ : L2.St} {H : Hp} (h : sD K (mAsg i m) D σ H) : tAsg (tD K m) (gName i) D σ H := by
  obtain ⟨ρ, σd, S, out, hs, he, hm, q⟩ := h
  unfold mAsg at hm
  rw [Option.map_eq_some_iff] at hm
  obtain ⟨⟨w, S1⟩, h1, h2⟩ := hm
  cases h2
  exact ⟨ρ, σd, S, w, S1, hs, he, h1, fun ρ1 v H1 e1 s1 r1 => q ρ1 _ H1 e1 s1 ((he.ext e1).set r1 i)⟩
theorem d_set (i : Nat) {x : Str} {m : ME} {pos' : Pos} (hN : X.N.Nodup) (hx : Loc X.env.scope x) (he : PD X e m) (hi : X.N[i]? = some x := by rfl) (hs : swapsWith e (some (.Name x pos')) pos.line X.env = pure false := by rfl)
    (hf : X.fn x = true ∨ X.env.scope.names.lookup x = some .local := by first | exact .inl rfl | exact .inr rfl) : PDS X (.Assign [.Name x pos'] e pos) (mAsg i m) := psImp (ps_set hN hi hx he hs hf) fun _ _ _ h => asg_of h
@[simp] def mExpr (m : ME) : MS := fun σ S => (m σ S).map fun r => .nx σ r.2
theorem d_expr {m : ME} (he : PD X e m) (hs : swapsWith e none pos.line X.env = pure false := by rfl) : PDS X (.Expr e pos) (mExpr m) := psImp (ps_expr he hs) fun D σ H ⟨ρ, σd, S, out, hs, he, hm, q⟩ => by
  unfold mExpr at hm
  rw [Option.map_eq_some_iff] at hm
  obtain ⟨⟨w, S1⟩, h1, h2⟩ := hm
  cases h2
  exact ⟨ρ, σd, S, w, S1, hs, he, h1, fun ρ1 v H1 e1 s1 r1 => q ρ1 _ H1 e1 s1 (he.ext e1)⟩
@[simp] def mRet (m : ME) : MS := fun σ S => (m σ S).map fun r => .rt r.1 r.2
theorem d_ret {m : ME} (he : PD X e m) : PDS X (.Return (some e) pos) (mRet m) := psImp (ps_ret he) fun D σ H ⟨ρ, σd, S, out, hs, he, hm, q⟩ => by
  unfold mRet at hm
  rw [Option.map_eq_some_iff] at hm
  obtain ⟨⟨w, S1⟩, h1, h2⟩ := hm
  cases h2
  exact ⟨ρ, σd, S, w, S1, hs, he, h1, fun ρ1 v H1 e1 s1 r1 => q ρ1 _ H1 e1 s1 r1⟩
@[simp] def mRetN : MS := fun σ S => some (.rt (.d .none) S)
theorem d_retN : PDS X (.Return none pos) mRetN := psImp ps_retN fun D σ H ⟨ρ, σd, S, out, hs, he, hm, q⟩ => by
  cases hm
  exact q ρ _ H .refl hs .non
@[simp] def mIfS (t : MT) (a b : MS) : MS := fun σ S => (t σ S).bind fun r => if r.1 = true then a σ r.2 else b σ r.2
theorem d_ifS {mt : MT} {ma mb : MS} {as bs : List Stmt} (hc : PDT X c mt) (ha : PDSs X as ma) (hb : PDSs X bs mb) : PDS X (.If c as bs pos) (mIfS mt ma mb) := psImp (ps_if hc ha hb) fun D σ H ⟨ρ, σd, S, out, hs, he, hm, q⟩ => by
  obtain ⟨⟨k, S1⟩, h1, hm⟩ := Option.bind_eq_some_iff.mp hm
  refine ⟨ρ, σd, S, k, S1, hs, he, h1, fun ρ1 H1 e1 s1 => ?_⟩
  cases k with
  | true => rw [if_pos rfl] at hm ⊢; exact ⟨ρ1, σd, S1, out, s1, he.ext e1, hm, q.ext e1⟩
  | false => rw [if_neg Bool.false_ne_true] at hm ⊢; exact ⟨ρ1, σd, S1, out, s1, he.ext e1, hm, q.ext e1⟩
@[simp] def mBreak : MS := fun σ S => some (.bk σ S)
@[simp] def mCont : MS := fun σ S => some (.ct σ S)
theorem d_pass : PDS X (.Pass pos) mSkip := psImp ps_pass fun D σ H ⟨ρ, σd, S, out, hs, he, hm, q⟩ => by
  cases hm
  exact q ρ σ H .refl hs he
theorem d_break : PDS X (.Break pos) mBreak := psImp ps_break fun D σ H ⟨ρ, σd, S, out, hs, he, hm, q⟩ => by
  cases hm
  exact q ρ σ H .refl hs he
theorem d_cont : PDS X (.Continue pos) mCont := psImp ps_continue fun D σ H ⟨ρ, σd, S, out, hs, he, hm, q⟩ => by
  cases hm
  exact q ρ σ H .refl hs he
/-- a, b = x, y -/
@[simp] def mPar2 (i j : Nat) (m : MA) : MS := fun σ S => (m σ S).bind fun r => match r.1 with
  | [u, v] => some (.nx ((σ.set i (some u)).set j (some v)) r.2)
  | _ => none
theorem d_par2 (i j : Nat) {x y : Str} {m : MA} {px py pt : Pos} {kt k2 pt2} (hc : X.calm = true) (hN : X.N.Nodup) (hx : X.env.scope.names.lookup x = some .local) (hy : X.env.scope.names.lookup y = some .local) (ha : PDA X [a, b] m)
    (hw : swappedStores [.Tuple [.Name x px, .Name y py] kt pt] (.Tuple [a, b] k2 pt2) X.env = pure (some [x, y]))
    (hi : X.N[i]? = some x := by rfl) (hj : X.N[j]? = some y := by rfl) (hij : i ≠ j := by decide)
    (hs : swapsWithSole [.Tuple [.Name x px, .Name y py] kt pt] (.Tuple [a, b] k2 pt2) pos.line X.env = pure false := by rfl) :
    PDS X (.Assign [.Tuple [.Name x px, .Name y py] kt pt] (.Tuple [a, b] k2 pt2) pos) (mPar2 i j m) := psImp (ps_par hc hN hi hj hij hx hy ha hw hs) fun D σ H ⟨ρ, σd, S, out, hs, he, hm, q⟩ => by
  obtain ⟨⟨ws, S1⟩, h1, hm⟩ := Option.bind_eq_some_iff.mp hm
  refine ⟨ρ, σd, S, ws, S1, hs, he, h1, fun ρ1 vs H1 e1 s1 r1 => ?_⟩
  simp only at hm
  split at hm
  · rename_i u v
    cases hm
    obtain ⟨y1, y2, rfl, q1, q2⟩ := r1.two
    exact ⟨y1, y2, rfl, q ρ1 _ H1 e1 s1 (((he.ext e1).set q1 i).set q2 j)⟩
  · cases hm
@[simp] def mPar3 (i j l : Nat) (m : MA) : MS := fun σ S => (m σ S).bind fun r => match r.1 with
  | [u, v, w] => some (.nx (((σ.set i (some u)).set j (some v)).set l (some w)) r.2)
  | _ => none
theorem d_par3 (i j l : Nat) {x y z : Str} {m : MA} {px py pz pt : Pos} {kt k2 pt2} (hc : X.calm = true) (hN : X.N.Nodup) (hx : X.env.scope.names.lookup x = some .local) (hy : X.env.scope.names.lookup y = some .local) (hz : X.env.scope.names.lookup z = some .local) (ha : PDA X [a, b, c] m)
    (hw : swappedStores [.Tuple [.Name x px, .Name y py, .Name z pz] kt pt] (.Tuple [a, b, c] k2 pt2) X.env = pure (some [x, y, z]))
    (hi : X.N[i]? = some x := by rfl) (hj : X.N[j]? = some y := by rfl) (hl : X.N[l]? = some z := by rfl) (hij : i ≠ j := by decide) (hil : i ≠ l := by decide) (hjl : j ≠ l := by decide)
    (hs : swapsWithSole [.Tuple [.Name x px, .Name y py, .Name z pz] kt pt] (.Tuple [a, b, c] k2 pt2) pos.line X.env = pure false := by rfl) :
    PDS X (.Assign [.Tuple [.Name x px, .Name y py, .Name z pz] kt pt] (.Tuple [a, b, c] k2 pt2) pos) (mPar3 i j l m) := psImp (ps_par3 hc hN hi hj hl hij hil hjl hx hy hz ha hw hs) fun D σ H ⟨ρ, σd, S, out, hs, he, hm, q⟩ => by
  obtain ⟨⟨ws, S1⟩, h1, hm⟩ := Option.bind_eq_some_iff.mp hm
  refine ⟨ρ, σd, S, ws, S1, hs, he, h1, fun ρ1 vs H1 e1 s1 r1 => ?_⟩
  simp only at hm
  split at hm
  · rename_i u v w
    cases hm
    cases r1 with
    | cons q0 r1 =>
      obtain ⟨y1, y2, rfl, q1, q2⟩ := r1.two
      exact ⟨_, y1, y2, rfl, q ρ1 _ H1 e1 s1 ((((he.ext e1).set q0 i).set q1 j).set q2 l)⟩
  · cases hm

/-! targets -/
abbrev MG := W → Env → Option Env
def gD (K : PySem.W.Frag) (g : MG) : TG := fun v σ H Q => ∃ ρ σd S w σ1, SRel ρ H S ∧ RelE K ρ H σd σ ∧ RelW K ρ H w v ∧ g w σd = some σ1 ∧ ∀ ρ' σ' H', Ext ρ H ρ' H' → SRel ρ' H' S → RelE K ρ' H' σ1 σ' → Q σ' H'
abbrev PDG (X : Cx) (e : Expr) (g : MG) : Prop := PG X e (gD X.K g)
theorem pgImp {t t' : TG} (h : PG X e t) (i : ∀ v σ H Q, t' v σ H Q → t v σ H Q) : PG X e t' := ⟨fun pins s σ H v u Q I r q => h.run pins s σ H v u Q I r (i v σ H Q q)⟩
@[simp] def gN (i : Nat) : MG := fun w σ => some (σ.set i (some w))
theorem dg_name (i : Nat) {x : Str} (hN : X.N.Nodup) (hx : Loc X.env.scope x) (hi : X.N[i]? = some x := by rfl) (hf : X.fn x = true ∨ X.env.scope.names.lookup x = some .local := by first | exact .inl rfl | exact .inr rfl) : PDG X (.Name x pos) (gN i) :=
  pgImp (pg_name hN hi hx hf) fun v σ H Q ⟨ρ, σd, S, w, σ1, hs, he, r, hg, q⟩ => by
    cases hg
    exact q ρ _ H .refl hs (he.set r i)
abbrev MGs := List D → Env → Option Env
def gDs (K : PySem.W.Frag) (g : MGs) : TGs := fun vs σ H Q => ∃ ρ σd S ds σ1, SRel ρ H S ∧ RelE K ρ H σd σ ∧ RepL ρ H ds vs ∧ g ds σd = some σ1 ∧ ∀ ρ' σ' H', Ext ρ H ρ' H' → SRel ρ' H' S → RelE K ρ' H' σ1 σ' → Q σ' H'
abbrev PDGs (X : Cx) (es : List Expr) (g : MGs) : Prop := PGs X es (gDs X.K g)
theorem pgsImp {t t' : TGs} (h : PGs X es t) (i : ∀ v σ H Q, t' v σ H Q → t v σ H Q) : PGs X es t' := ⟨fun pins s σ H v u Q I r q => h.run pins s σ H v u Q I r (i v σ H Q q)⟩
@[simp] def gNil : MGs := fun ds σ => match ds with
  | [] => some σ
  | _ => none
@[simp] def gCons (g : MG) (r : MGs) : MGs := fun ds σ => match ds with
  | [] => none
  | d :: ds => (g (.d d) σ).bind fun σ1 => r ds σ1
theorem dgs_nil : PDGs X [] gNil := pgsImp pgs_nil fun vs σ H Q ⟨ρ, σd, S, ds, σ1, hs, he, r, hg, q⟩ => by
  cases ds with
  | nil => cases hg; cases r; exact ⟨rfl, q ρ σ H .refl hs he⟩
  | cons d ds => cases hg
theorem dgs_cons {g : MG} {r : MGs} (h1 : PDG X e g) (h2 : PDGs X es r) (hs : (assignEach (e :: es) X.env).map (·.2) = assign e X.env :: (assignEach es X.env).map (·.2) := by rfl) : PDGs X (e :: es) (gCons g r) :=
  pgsImp (pgs_cons h1 h2 hs) fun vs σ H Q ⟨ρ, σd, S, ds, σ1, hs, he, rr, hg, q⟩ => by
    cases ds with
    | nil => cases hg
    | cons d ds =>
      cases rr with
      | cons r1 r2 =>
        obtain ⟨σ2, h3, h4⟩ := Option.bind_eq_some_iff.mp hg
        exact ⟨_, _, rfl, ρ, σd, S, .d d, σ2, hs, he, r1, h3, fun ρ1 σ' H1 e1 s1 q1 => ⟨ρ1, σ2, S, ds, σ1, s1, q1, r2.ext e1, h4, fun ρ2 σ'' H2 e2 s2 q2 => q ρ2 σ'' H2 (e1.trans e2) s2 q2⟩⟩
@[simp] def gTup (n : Nat) (r : MGs) : MG := fun w σ => (asT w).bind fun ds => if decide (ds.length = n) = true then r ds σ else none
theorem dg_tup {k : Nat} {n : Nat} {r : MGs} (hc : X.calm = true) (h : PDGs X es r) (hn : (assignEach es X.env).length = n := by rfl) (hst : (assignEach es X.env).findIdx? (·.1) = none := by rfl) : PDG X (.Tuple es k pos) (gTup n r) :=
  pgImp (pg_tup hc h hn hst) fun v σ H Q ⟨ρ, σd, S, w, σ1, hs, he, rr, hg, q⟩ => by
    obtain ⟨ds, h1, h2⟩ := Option.bind_eq_some_iff.mp hg
    obtain ⟨a, vs, rfl, ht, hr⟩ := asT_rel rr h1
    split at h2
    · rename_i hl
      exact ⟨a, vs, rfl, ht, by rw [← hr.length]; exact of_decide_eq_true hl, ρ, σd, S, ds, σ1, hs, he, hr, h2, q⟩
    · cases h2
@[simp] def mAsgG (g : MG) (m : ME) : MS := fun σ S => (m σ S).bind fun r => (g r.1 σ).map fun σ1 => .nx σ1 r.2
theorem d_asg {tg : Expr} {m : ME} {g : MG} (he : PD X e m) (hg : PDG X tg g) (hs : swapsWithSole [tg] e pos.line X.env = pure false := by rfl) (hw : swappedStores [tg] e X.env = pure none := by rfl)
    (h1 : (assignEach [tg] X.env).map (·.2) = [assign tg X.env] := by rfl) : PDS X (.Assign [tg] e pos) (mAsgG g m) := psImp (ps_asg he hg hs hw h1) fun D σ H ⟨ρ, σd, S, out, hs, he, hm, q⟩ => by
  obtain ⟨⟨w, S1⟩, h1, h2⟩ := Option.bind_eq_some_iff.mp hm
  rw [Option.map_eq_some_iff] at h2
  obtain ⟨σ1, h3, h4⟩ := h2
  cases h4
  exact ⟨ρ, σd, S, w, S1, hs, he, h1, fun ρ1 v H1 e1 s1 r1 => ⟨ρ1, σd, S1, w, σ1, s1, he.ext e1, r1, h3, fun ρ2 σ' H2 e2 s2 r2 => q ρ2 σ' H2 (e1.trans e2) s2 r2⟩⟩

/-! o[i] = v -/
abbrev GS := Sto → W → W → W → Option Sto
def rDS (K : PySem.W.Frag) (g : GS) : TSet := fun o i v H Q => ∃ ρ S x y z S', SRel ρ H S ∧ RelW K ρ H x o ∧ RelW K ρ H y i ∧ RelW K ρ H z v ∧ g S x y z = some S' ∧ ∀ ρ' H', Ext ρ H ρ' H' → SRel ρ' H' S' → Q H'
abbrev SetD (X : Cx) (g : GS) : Prop := PSet X (rDS X.K g)
@[simp] def mSetI (g : GS) (mo mi mv : ME) : MS := fun σ S => (mv σ S).bind fun v => (mo σ v.2).bind fun o => (mi σ o.2).bind fun i => (g i.2 o.1 i.1 v.1).map fun S' => .nx σ S'
theorem d_setI {o i : Expr} {mo mi mv : ME} {g : GS} {tpos : Pos} (hv : PD X e mv) (ho : PD X o mo) (hi : PD X i mi) (hs : SetD X g)
    (ha : ∀ v, assign (.Subscript o i tpos) X.env v = (do
      let ov ← holding [v] (eval o X.env)
      let iv ← holding [v, ov] (eval i X.env)
      standAt tpos
      holding [v, ov, iv] (setItem ov iv v)
      release [v, ov, iv] []) := by intro _; rfl) (hsw : swapsWithSole [.Subscript o i tpos] e pos.line X.env = pure false := by rfl) (hw : swappedStores [.Subscript o i tpos] e X.env = pure none := by rfl)
    (h1 : (assignEach [.Subscript o i tpos] X.env).map (·.2) = [assign (.Subscript o i tpos) X.env] := by rfl) : PDS X (.Assign [.Subscript o i tpos] e pos) (mSetI g mo mi mv) :=
  psImp (ps_asg hv (pg_sub ho hi hs ha) hsw hw h1) fun D σ H ⟨ρ, σd, S, out, hs, he, hm, q⟩ => by
    obtain ⟨⟨w1, S1⟩, h1, hm⟩ := Option.bind_eq_some_iff.mp hm
    obtain ⟨⟨w2, S2⟩, h2, hm⟩ := Option.bind_eq_some_iff.mp hm
    obtain ⟨⟨w3, S3⟩, h3, hm⟩ := Option.bind_eq_some_iff.mp hm
    rw [Option.map_eq_some_iff] at hm
    obtain ⟨S4, h4, h5⟩ := hm
    cases h5
    refine ⟨ρ, σd, S, w1, S1, hs, he, h1, fun ρ1 v1 H1 e1 s1 r1 => ⟨ρ1, σd, S1, w2, S2, s1, he.ext e1, h2, fun ρ2 v2 H2 e2 s2 r2 => ⟨ρ2, σd, S2, w3, S3, s2, he.ext (e1.trans e2), h3, fun ρ3 v3 H3 e3 s3 r3 => ?_⟩⟩⟩
    exact ⟨ρ3, S3, w2, w3, w1, S4, s3, r2.ext e3, r3, r1.ext (e2.trans e3), h4, fun ρ4 H4 e4 s4 => q ρ4 σ H4 (((e1.trans e2).trans e3).trans e4) s4 (he.ext (((e1.trans e2).trans e3).trans e4))⟩

/-! methods of what is built in -/
abbrev GM := Sto → W → List W → Option (W × Sto)
def rDM (K : PySem.W.Frag) (g : GM) : V → List V → Hp → VK → Prop := fun x vs H Q => ∃ ρ S w ws w' S', SRel ρ H S ∧ RelW K ρ H w x ∧ RelWs K ρ H ws vs ∧ g S w ws = some (w', S') ∧ ∀ ρ' z H', Ext ρ H ρ' H' → SRel ρ' H' S' → RelW K ρ' H' w' z → Q z H'
abbrev MtD (X : Cx) (id : String) (g : GM) : Prop := MtR X id (rDM X.K g)
/-- ty: of the type -/
@[simp] def mMeth (ty : Sto → W → Bool) (g : GM) (o : ME) (m : MA) : ME := fun σ S => (o σ S).bind fun r => if ty r.2 r.1 = true then (m σ r.2).bind fun q => g q.2 r.1 q.1 else none
def TyD (X : Cx) (T : String) (ty : Sto → W → Bool) : Prop := ∀ ρ H S w v, SRel ρ H S → RelW X.K ρ H w v → ty S w = true → tyV X.K T v H
theorem d_meth {o : Expr} {name : Str} {apos cpos : Pos} {T id : String} {g : GM} {ty : Sto → W → Bool} {mo : ME} {m : MA} (pa : PlainAttrs T) (slot : Slot T name id) (hty : typeOf (.builtin id) = pure (.type "method_descriptor")) (hm : MtD X id g) (hT : TyD X T ty) (ho : PD X o mo) (ha : PDA X (e :: es) m)
    (hbase : attributeBase o name X.env (eval o X.env) = eval o X.env := by rfl)
    (hfew : ((backTo cpos (starEach (e :: es) X.env)).all (fun x => !x.1) && (backToKw cpos (keywordEach [] X.env)).all (fun x => x.1.isSome)
      && decide ((e :: es).length + ([] : List Keyword).length + (if ([] : List Keyword).isEmpty then 0 else 1) < 30)) = true := by rfl)
    (hline : (apos.endLine == cpos.line) = true := by rfl) (hs : starEach (e :: es) X.env = (false, eval e X.env) :: starEach es X.env := by rfl) (hplain : (backTo cpos (starEach es X.env)).any (·.1) = false := by rfl) :
    PD X (.Call (.Attribute o name apos) (e :: es) [] cpos) (mMeth ty g mo m) := peImp (pe_bm pa slot hty hm ho ha hbase hfew hline hs hplain) fun σ H Q ⟨ρ, σd, S, w, S', hs, he, hm, q⟩ => by
  obtain ⟨⟨w1, S1⟩, h1, hm⟩ := Option.bind_eq_some_iff.mp hm
  dsimp only at hm
  split at hm
  · rename_i ht
    obtain ⟨⟨ws, S2⟩, h2, hm⟩ := Option.bind_eq_some_iff.mp hm
    refine ⟨ρ, σd, S, w1, S1, hs, he, h1, fun ρ1 v1 H1 e1 s1 r1 => ⟨hT ρ1 H1 S1 w1 v1 s1 r1 ht, ρ1, σd, S1, ws, S2, s1, he.ext e1, h2, fun ρ2 vs H2 e2 s2 r2 => ?_⟩⟩
    exact ⟨ρ2, S2, w1, ws, w, S', s2, r1.ext e2, r2, hm, fun ρ3 z H3 e3 s3 r3 => q ρ3 z H3 ((e1.trans e2).trans e3) s3 r3⟩
  · cases hm
theorem d_meth0 {o : Expr} {name : Str} {apos cpos : Pos} {T id : String} {g : GM} {ty : Sto → W → Bool} {mo : ME} (pa : PlainAttrs T) (slot : Slot T name id) (hty : typeOf (.builtin id) = pure (.type "method_descriptor")) (hm : MtD X id g) (hT : TyD X T ty) (ho : PD X o mo)
    (hbase : attributeBase o name X.env (eval o X.env) = eval o X.env := by rfl) (hline : (apos.endLine == cpos.line) = true := by rfl) :
    PD X (.Call (.Attribute o name apos) [] [] cpos) (mMeth ty g mo mNil) := peImp (pe_bm0 pa slot hty hm ho hbase hline) fun σ H Q ⟨ρ, σd, S, w, S', hs, he, hm, q⟩ => by
  obtain ⟨⟨w1, S1⟩, h1, hm⟩ := Option.bind_eq_some_iff.mp hm
  dsimp only at hm
  split at hm
  · rename_i ht
    exact ⟨ρ, σd, S, w1, S1, hs, he, h1, fun ρ1 v1 H1 e1 s1 r1 => ⟨hT ρ1 H1 S1 w1 v1 s1 r1 ht, ρ1, S1, w1, [], w, S', s1, r1, .nil, hm, fun ρ2 z H2 e2 s2 r2 => q ρ2 z H2 (e1.trans e2) s2 r2⟩⟩
  · cases hm

/-! what is walked -/
def ItOk (K : PySem.W.Frag) (ρ0 : Rho) (H0 : Hp) (J : It) (ds : List D) : Prop := ∀ ρ H S, Ext ρ0 H0 ρ H → SRel ρ H S → ∀ i : Nat,
  (ds.length ≤ i → J.stop i H) ∧ ∀ d, ds[i]? = some d → J.go i H ∧ ∀ x H', J.yld i H x H' → Gr H H' ∧ Rep ρ H' d x
theorem ItOk.ext {K : PySem.W.Frag} {ρ ρ' : Rho} {H H' : Hp} {J : It} {ds : List D} (h : ItOk K ρ H J ds) (e : Ext ρ H ρ' H') : ItOk K ρ' H' J ds := fun ρ2 H2 S e2 s2 => h ρ2 H2 S (e.trans e2) s2
abbrev MI := Env → Sto → Option (List D × Sto)
def iD (K : PySem.W.Frag) (m : MI) : TI := fun σ H R => ∃ ρ σd S ds S', SRel ρ H S ∧ RelE K ρ H σd σ ∧ m σd S = some (ds, S') ∧ ∀ ρ' J H', Ext ρ H ρ' H' → SRel ρ' H' S' → ItOk K ρ' H' J ds → R J H'
abbrev PDI (X : Cx) (tg e : Expr) (m : MI) : Prop := PI X tg e (iD X.K m)
theorem piImp {tg : Expr} {t t' : TI} (h : PI X tg e t) (i : ∀ σ H R, t' σ H R → t σ H R) : PI X tg e t' := ⟨fun pins s σ H R I q => h.run pins s σ H R I (i σ H R q)⟩
/-- a list that nobody changes -/
@[simp] def asP : W → Option (List D)
  | .d (.list xs) => some xs
  | _ => none
@[simp] def iL (m : ME) : MI := fun σ S => (m σ S).bind fun r => (asP r.1).map fun ds => (ds, r.2)
theorem SqL.inj1 {K : PySem.W.Frag} {H : Hp} {a : Addr} {xs ys : List V} (h : H a = some (.lst xs)) (n : K.lookup a = none) (q : SqL K H a ys) : ys = xs := by
  rcases q with (q | ⟨o, q⟩) | ⟨o, its, k, q, _⟩
  · rw [h] at q; cases q; rfl
  · rw [h] at q; cases q
  · rw [n] at q; cases q
end
end DL

set_option Elab.async false
set_option linter.all false
set_option maxRecDepth 100000
set_option autoImplicit false
/-! The data layer, 4: what is walked, loops, comprehensions, defs. -/
noncomputable section
namespace DL
open PySem PySem.Spec PyProof.Rows L2

section
variable {K : PySem.W.Frag} {ρ : Rho} {H : Hp} {S : Sto}
/-- a list or tuple whose items stand, whatever comes -/
theorem lst_stays {a : Addr} {vs : List V} (h : H a = some (.lst vs)) (n : ρ.Fr a) {ρ' : Rho} {H' : Hp} (e : Ext ρ H ρ' H') : SqL K H' a vs := .inl (.inl (e.at h n).1)
theorem itl_ok {a : Addr} {ds : List D} {vs : List V} (h : ∀ ρ' H', Ext ρ H ρ' H' → SqL K H' a vs) (r : RepL ρ H ds vs) : ItOk K ρ H (Itl K a) ds := fun ρ' H' S' e s i => by
  have q := h ρ' H' e
  have rl := r.length
  refine ⟨fun hl => ⟨vs, q, by omega⟩, fun d hd => ?_⟩
  obtain ⟨v, hv, rv⟩ := r.get hd
  refine ⟨⟨vs, v, q, hv⟩, fun x H'' y => ?_⟩
  obtain ⟨rfl, y⟩ := y
  have := y vs q
  rw [hv] at this; cases this
  exact ⟨Gr.refl, rv.ext e⟩
theorem itt_ok {a : Addr} {ds : List D} {vs : List V} (h : ∀ ρ' H', Ext ρ H ρ' H' → SqT K H' a vs) (r : RepL ρ H ds vs) : ItOk K ρ H (Itt K a) ds := fun ρ' H' S' e s i => by
  have q := h ρ' H' e
  have rl := r.length
  refine ⟨fun hl => ⟨vs, q, by omega⟩, fun d hd => ?_⟩
  obtain ⟨v, hv, rv⟩ := r.get hd
  refine ⟨⟨vs, v, q, hv⟩, fun x H'' y => ?_⟩
  obtain ⟨rfl, y⟩ := y
  have := y vs q
  rw [hv] at this; cases this
  exact ⟨Gr.refl, rv.ext e⟩
def rangeD (lo : Int) : Nat → List D
  | 0 => []
  | n + 1 => .int lo :: rangeD (lo + 1) n
theorem rangeD_len (n : Nat) : ∀ lo, (rangeD lo n).length = n := by
  induction n with
  | zero => intro; rfl
  | succ n ih => intro lo; simp [rangeD, ih]
theorem rangeD_get : ∀ (n i : Nat) (lo : Int), i < n → (rangeD lo n)[i]? = some (.int (lo + i)) := by
  intro n
  induction n with
  | zero => intro i lo h; omega
  | succ n ih =>
    intro i lo h
    cases i with
    | zero => simp [rangeD]
    | succ i =>
      simp only [rangeD, List.getElem?_cons_succ]
      rw [ih i (lo + 1) (by omega)]
      congr 2
      omega
theorem itr_ok {lo : Int} {n : Nat} : ItOk K ρ H (Itr lo n) (rangeD lo n) := fun ρ' H' S' e s i => by
  refine ⟨fun hl => by rw [rangeD_len] at hl; exact hl, fun d hd => ?_⟩
  have hi : i < n := by
    have := (List.getElem?_eq_some_iff.mp hd).1
    rw [rangeD_len] at this; exact this
  rw [rangeD_get n i lo hi] at hd
  cases hd
  refine ⟨hi, fun x H'' y => ?_⟩
  obtain ⟨rfl, rfl⟩ := y
  exact ⟨Gr.refl, .int _⟩
def enumD (lo : Nat) : List D → List D
  | [] => []
  | d :: ds => .tuple [.int lo, d] :: enumD (lo + 1) ds
theorem enumD_get : ∀ (ds : List D) (lo i : Nat), (enumD lo ds)[i]? = ds[i]?.map fun d => PyData.tuple [.int ((lo + i : Nat) : Int), d] := by
  intro ds
  induction ds with
  | nil => intro lo i; rfl
  | cons d ds ih =>
    intro lo i
    cases i with
    | zero => rfl
    | succ i =>
      simp only [enumD, List.getElem?_cons_succ]
      rw [ih]
      congr 1
      funext d
      congr 3
      omega
theorem enumD_len (ds : List D) : ∀ lo, (enumD lo ds).length = ds.length := by
  induction ds with
  | nil => intro; rfl
  | cons d ds ih => intro lo; simp [enumD, ih]
theorem ite_ok {a : Addr} {ds : List D} {vs : List V} (h : ∀ ρ' H', Ext ρ H ρ' H' → SqL K H' a vs) (r : RepL ρ H ds vs) : ItOk K ρ H (Ite K a) (enumD 0 ds) := fun ρ' H' S' e s i => by
  have q := h ρ' H' e
  have rl := r.length
  refine ⟨fun hl => ⟨vs, q, by rw [enumD_len] at hl; omega⟩, fun d hd => ?_⟩
  rw [enumD_get, Option.map_eq_some_iff] at hd
  obtain ⟨d0, hd, rfl⟩ := hd
  obtain ⟨v, hv, rv⟩ := r.get hd
  refine ⟨⟨vs, v, q, hv⟩, fun x H'' y => ?_⟩
  obtain ⟨T, x0, rfl, hT, rfl, y⟩ := y
  have := y vs q
  rw [hv] at this; cases this
  refine ⟨Gr.new hT, .tup upd_same (s.fresh hT) (.cons ?_ (.cons ((rv.ext e).ext (Ext.new hT)) .nil))⟩
  rw [Nat.zero_add]
  exact .int _
def zipD : List D → List D → List D
  | a :: as, b :: bs => .tuple [a, b] :: zipD as bs
  | _, _ => []
theorem zipD_get : ∀ (as bs : List D) (i : Nat) (d : D), (zipD as bs)[i]? = some d → ∃ x y, as[i]? = some x ∧ bs[i]? = some y ∧ d = .tuple [x, y] := by
  intro as
  induction as with
  | nil => intro bs i d h; simp [zipD] at h
  | cons a as ih =>
    intro bs i d h
    cases bs with
    | nil => simp [zipD] at h
    | cons b bs =>
      cases i with
      | zero => simp [zipD] at h; exact ⟨a, b, rfl, rfl, h.symm⟩
      | succ i => simp only [zipD, List.getElem?_cons_succ] at h ⊢; exact ih bs i d h
theorem zipD_len : ∀ (as bs : List D), (zipD as bs).length = min as.length bs.length := by
  intro as
  induction as with
  | nil => intro bs; simp [zipD]
  | cons a as ih => intro bs; cases bs with | nil => simp [zipD] | cons b bs => simp [zipD, ih]
theorem itz_ok {a b : Addr} {ds es : List D} {vs us : List V} (h : ∀ ρ' H', Ext ρ H ρ' H' → SqL K H' a vs) (h' : ∀ ρ' H', Ext ρ H ρ' H' → SqL K H' b us) (r : RepL ρ H ds vs) (r' : RepL ρ H es us) : ItOk K ρ H (Itz K a b) (zipD ds es) := fun ρ' H' S' e s i => by
  have q := h ρ' H' e
  have q' := h' ρ' H' e
  have rl := r.length
  have rl' := r'.length
  refine ⟨fun hl => ⟨vs, us, q, q', by rw [zipD_len] at hl; omega⟩, fun d hd => ?_⟩
  obtain ⟨x, y, hx, hy, rfl⟩ := zipD_get _ _ _ _ hd
  obtain ⟨v, hv, rv⟩ := r.get hx
  obtain ⟨u, hu, ru⟩ := r'.get hy
  refine ⟨⟨vs, us, v, u, q, q', hv, hu⟩, fun x0 H'' y0 => ?_⟩
  obtain ⟨T, x1, y1, rfl, hT, rfl, z1, z2⟩ := y0
  have t1 := z1 vs q
  rw [hv] at t1; cases t1
  have t2 := z2 us q'
  rw [hu] at t2; cases t2
  exact ⟨Gr.new hT, .tup upd_same (s.fresh hT) (.cons ((rv.ext e).ext (Ext.new hT)) (.cons ((ru.ext e).ext (Ext.new hT)) .nil))⟩
theorem itzT_ok {a b : Addr} {ds es : List D} {vs us : List V} (h : ∀ ρ' H', Ext ρ H ρ' H' → SqT K H' a vs) (h' : ∀ ρ' H', Ext ρ H ρ' H' → SqT K H' b us) (r : RepL ρ H ds vs) (r' : RepL ρ H es us) : ItOk K ρ H (RZ.ItzT K a b) (zipD ds es) := fun ρ' H' S' e s i => by
  have q := h ρ' H' e
  have q' := h' ρ' H' e
  have rl := r.length
  have rl' := r'.length
  refine ⟨fun hl => ⟨vs, us, q, q', by rw [zipD_len] at hl; omega⟩, fun d hd => ?_⟩
  obtain ⟨x, y, hx, hy, rfl⟩ := zipD_get _ _ _ _ hd
  obtain ⟨v, hv, rv⟩ := r.get hx
  obtain ⟨u, hu, ru⟩ := r'.get hy
  refine ⟨⟨vs, us, v, u, q, q', hv, hu⟩, fun x0 H'' y0 => ?_⟩
  obtain ⟨T, x1, y1, rfl, hT, rfl, z1, z2⟩ := y0
  have t1 := z1 vs q
  rw [hv] at t1; cases t1
  have t2 := z2 us q'
  rw [hu] at t2; cases t2
  exact ⟨Gr.new hT, .tup upd_same (s.fresh hT) (.cons ((rv.ext e).ext (Ext.new hT)) (.cons ((ru.ext e).ext (Ext.new hT)) .nil))⟩
theorem itv_ok {a : Addr} {ds : List D} {vs : List V} (h : ∀ ρ' H', Ext ρ H ρ' H' → SqL K H' a vs) (r : RepL ρ H ds vs) : ItOk K ρ H (Itv K a vs.length) ds.reverse := fun ρ' H' S' e s i => by
  have q := h ρ' H' e
  have rl := r.length
  refine ⟨fun hl => by rw [List.length_reverse] at hl; show vs.length ≤ i; omega, fun d hd => ?_⟩
  have hi : i < ds.length := by
    have := (List.getElem?_eq_some_iff.mp hd).1
    simpa using this
  rw [List.getElem?_reverse hi] at hd
  obtain ⟨v, hv, rv⟩ := r.get hd
  rw [rl] at hv
  refine ⟨⟨by omega, vs, v, q, hv⟩, fun x H'' y => ?_⟩
  obtain ⟨rfl, y⟩ := y
  have := y vs q
  rw [hv] at this; cases this
  exact ⟨Gr.refl, rv.ext e⟩
end

/-- data that is walked: a list that nobody changes (with its standing) -/
theorem asP_rel {K : PySem.W.Frag} {ρ : Rho} {H : Hp} {w : W} {v : V} {ds : List D} (r : RelW K ρ H w v) (h : asP w = some ds) : ∃ a vs, v = .ref a ∧ (∀ ρ' H', Ext ρ H ρ' H' → SqL K H' a vs) ∧ RepL ρ H ds vs := by
  cases w with
  | d x =>
    cases x with
    | list xs =>
      cases h
      cases r with
      | lst h1 h2 h3 => exact ⟨_, _, rfl, fun ρ' H' e => lst_stays h1 h2 e, h3⟩
    | _ => cases h
  | _ => cases h
theorem asT_stays {K : PySem.W.Frag} {ρ : Rho} {H : Hp} {w : W} {v : V} {ds : List D} (r : RelW K ρ H w v) (h : asT w = some ds) : ∃ a vs, v = .ref a ∧ (∀ ρ' H', Ext ρ H ρ' H' → SqT K H' a vs) ∧ RepL ρ H ds vs := by
  cases w with
  | d x =>
    cases x with
    | tuple xs =>
      cases h
      cases r with
      | tup h1 h2 h3 => exact ⟨_, _, rfl, fun ρ' H' e => .inl (.inl (e.at h1 h2).1), h3⟩
    | _ => cases h
  | ct xs =>
    cases h
    obtain ⟨a, vs, e, h1, h2⟩ := r
    exact ⟨a, vs, e, fun _ H' _ => h1 H', h2.rep⟩
  | _ => cases h
section
variable {X : Cx} {e a b c tg : Expr} {pos : Pos} {st : Stmt} {rest : List Stmt} {es : List Expr}
theorem di_list {m : ME} (he : PD X e m) : PDI X tg e (iL m) := piImp (pi_list he) fun σ H R ⟨ρ, σd, S, ds, S', hs, hE, hm, q⟩ => by
  obtain ⟨⟨w1, S1⟩, h1, hm⟩ := Option.bind_eq_some_iff.mp hm
  rw [Option.map_eq_some_iff] at hm
  obtain ⟨ds', h2, h3⟩ := hm
  cases h3
  refine ⟨ρ, σd, S, w1, S1, hs, hE, h1, fun ρ1 v H1 e1 s1 r1 => ?_⟩
  obtain ⟨a, vs, rfl, hq, hr⟩ := asP_rel r1 h2
  exact ⟨a, rfl, ⟨vs, hq ρ1 H1 .refl⟩, q ρ1 _ H1 e1 s1 (itl_ok hq hr)⟩
@[simp] def iT (m : ME) : MI := fun σ S => (m σ S).bind fun r => (asT r.1).map fun ds => (ds, r.2)
theorem di_tup {m : ME} (he : PD X e m) : PDI X tg e (iT m) := piImp (pi_tup he) fun σ H R ⟨ρ, σd, S, ds, S', hs, hE, hm, q⟩ => by
  obtain ⟨⟨w1, S1⟩, h1, hm⟩ := Option.bind_eq_some_iff.mp hm
  rw [Option.map_eq_some_iff] at hm
  obtain ⟨ds', h2, h3⟩ := hm
  cases h3
  refine ⟨ρ, σd, S, w1, S1, hs, hE, h1, fun ρ1 v H1 e1 s1 r1 => ?_⟩
  obtain ⟨a, vs, rfl, hq, hr⟩ := asT_stays r1 h2
  exact ⟨a, rfl, ⟨vs, hq ρ1 H1 .refl⟩, q ρ1 _ H1 e1 s1 (itt_ok hq hr)⟩
/-- a list or a tuple -/
def big62 (i : Int) : Bool := says (-(2 ^ 62) ≤ i ∧ i < 2 ^ 62)
@[simp] def iR1 (m : MA) : MI := fun σ S => (m σ S).bind fun r => match r.1 with
  | [.d (.int j)] => if big62 j = true then some (rangeD 0 j.toNat, r.2) else none
  | _ => none
@[simp] def iR2 (m : MA) : MI := fun σ S => (m σ S).bind fun r => match r.1 with
  | [.d (.int i), .d (.int j)] => if (big62 i && big62 j) = true then some (rangeD i (j - i).toNat, r.2) else none
  | _ => none
theorem di_range1 {m : MA} {p : Pos} (hg : Gl X "range") (hm : X.mg "range" = none) (ha : PDA X [a] m) (hs : starEach [a] X.env = [(false, eval a X.env)] := by rfl) : PDI X tg (.Call (.Name "range" p) [a] [] pos) (iR1 m) :=
  piImp (pi_range1 hg hm ha hs) fun σ H R ⟨ρ, σd, S, ds, S', hs, hE, hm, q⟩ => by
    obtain ⟨⟨ws, S1⟩, h1, hm⟩ := Option.bind_eq_some_iff.mp hm
    dsimp only at hm
    split at hm
    · rename_i j
      obtain ⟨hb, hm⟩ := some_if hm
      cases hm
      have hb' := says_of hb
      refine ⟨ρ, σd, S, _, _, hs, hE, h1, fun ρ1 vs H1 e1 s1 r1 => ?_⟩
      obtain ⟨v, rfl, r⟩ := r1.one
      cases r
      exact ⟨j, rfl, hb'.1, hb'.2, q ρ1 _ H1 e1 s1 itr_ok⟩
    · cases hm
theorem di_range2 {m : MA} {p : Pos} (hg : Gl X "range") (hm : X.mg "range" = none) (ha : PDA X [a, b] m) (hs : starEach [a, b] X.env = [(false, eval a X.env), (false, eval b X.env)] := by rfl) (hs2 : starEach [b] X.env = [(false, eval b X.env)] := by rfl) : PDI X tg (.Call (.Name "range" p) [a, b] [] pos) (iR2 m) :=
  piImp (pi_range2 hg hm ha hs hs2) fun σ H R ⟨ρ, σd, S, ds, S', hs, hE, hm, q⟩ => by
    obtain ⟨⟨ws, S1⟩, h1, hm⟩ := Option.bind_eq_some_iff.mp hm
    dsimp only at hm
    split at hm
    · rename_i i j
      obtain ⟨hb, hm⟩ := some_if hm
      cases hm
      rw [Bool.and_eq_true] at hb
      have hb1 := says_of hb.1
      have hb2 := says_of hb.2
      refine ⟨ρ, σd, S, _, _, hs, hE, h1, fun ρ1 vs H1 e1 s1 r1 => ?_⟩
      obtain ⟨v, u, rfl, r, r'⟩ := r1.two
      cases r
      cases r'
      exact ⟨i, j, rfl, ⟨hb1.1, hb1.2, hb2.1, hb2.2⟩, q ρ1 _ H1 e1 s1 itr_ok⟩
    · cases hm
def iEnumD (m : MA) : MI := fun σ S => (m σ S).bind fun r => match r.1 with
  | [w] => (asP w).map fun ds => (enumD 0 ds, r.2)
  | _ => none
theorem di_enum {m : MA} {p tpos : Pos} {elts : List Expr} {kk : Nat} (hg : Gl X "enumerate") (hm : X.mg "enumerate" = none) (ha : PDA X [e] m) (hs : starEach [e] X.env = [(false, eval e X.env)] := by rfl) :
    PDI X (.Tuple elts kk tpos) (.Call (.Name "enumerate" p) [e] [] pos) (iEnumD m) := piImp (pi_enum hg hm ha hs) fun σ H R ⟨ρ, σd, S, ds, S', hs, hE, hm, q⟩ => by
  obtain ⟨⟨ws, S1⟩, h1, hm⟩ := Option.bind_eq_some_iff.mp hm
  dsimp only at hm
  split at hm
  · rename_i w
    rw [Option.map_eq_some_iff] at hm
    obtain ⟨ds', h2, h3⟩ := hm
    cases h3
    refine ⟨ρ, σd, S, _, _, hs, hE, h1, fun ρ1 vs H1 e1 s1 r1 => ?_⟩
    obtain ⟨v, rfl, r⟩ := r1.one
    obtain ⟨a, us, rfl, hq, hr⟩ := asP_rel r h2
    exact ⟨a, us, rfl, hq ρ1 H1 .refl, q ρ1 _ H1 e1 s1 (ite_ok hq hr)⟩
  · cases hm
def iZipD (m : MA) : MI := fun σ S => (m σ S).bind fun r => match r.1 with
  | [u, v] => match asP u, asP v with
    | some ds, some es => some (zipD ds es, r.2)
    | _, _ => match asT u, asT v with
      | some ds, some es => some (zipD ds es, r.2)
      | _, _ => none
  | _ => none
theorem di_zip {e2 : Expr} {m : MA} {p tpos : Pos} {elts : List Expr} {kk : Nat} (hg : Gl X "zip") (hm : X.mg "zip" = none) (ha : PDA X [e, e2] m)
    (hs : starEach [e, e2] X.env = (false, eval e X.env) :: starEach [e2] X.env := by rfl) (hpl : (backTo pos (starEach [e2] X.env)).any (·.1) = false := by rfl) :
    PDI X (.Tuple elts kk tpos) (.Call (.Name "zip" p) [e, e2] [] pos) (iZipD m) := piImp (RZ.pi_zipA hg hm ha hs hpl) fun σ H R ⟨ρ, σd, S, ds, S', hs, hE, hm, q⟩ => by
  obtain ⟨⟨ws, S1⟩, h1, hm⟩ := Option.bind_eq_some_iff.mp hm
  dsimp only at hm
  split at hm
  · rename_i u v
    refine ⟨ρ, σd, S, _, _, hs, hE, h1, fun ρ1 vs H1 e1 s1 r1 => ?_⟩
    obtain ⟨x, y, rfl, rx, ry⟩ := r1.two
    split at hm
    · rename_i ds' es' h2 h3
      cases hm
      obtain ⟨a, us, rfl, hq, hr⟩ := asP_rel rx h2
      obtain ⟨a', us', rfl, hq', hr'⟩ := asP_rel ry h3
      exact ⟨a, a', us, us', rfl, .inl ⟨hq ρ1 H1 .refl, hq' ρ1 H1 .refl, q ρ1 _ H1 e1 s1 (itz_ok hq hq' hr hr')⟩⟩
    · split at hm
      · rename_i ds' es' h2 h3
        cases hm
        obtain ⟨a, us, rfl, hq, hr⟩ := asT_stays rx h2
        obtain ⟨a', us', rfl, hq', hr'⟩ := asT_stays ry h3
        exact ⟨a, a', us, us', rfl, .inr ⟨hq ρ1 H1 .refl, hq' ρ1 H1 .refl, q ρ1 _ H1 e1 s1 (itzT_ok hq hq' hr hr')⟩⟩
      · cases hm
  · cases hm

/-! for -/
@[simp] def forM (g : MG) (b : MS) : List D → MS
  | [], σ, S => some (.nx σ S)
  | d :: ds, σ, S => (g (.d d) σ).bind fun σ1 => (b σ1 S).bind fun o => match o with
    | .nx σ2 S2 => forM g b ds σ2 S2
    | .ct σ2 S2 => forM g b ds σ2 S2
    | .bk σ2 S2 => some (.nx σ2 S2)
    | .rt w S2 => some (.rt w S2)
@[simp] def mFor (mi : MI) (g : MG) (b : MS) : MS := fun σ S => (mi σ S).bind fun r => forM g b r.1 σ r.2
theorem for_of {K : PySem.W.Frag} {mi : MI} {g : MG} {mb : MS} {D' : Ends} {σ : L2.St} {H : Hp} (h : sD K (mFor mi g mb) D' σ H) : tFor (iD K mi) (gD K g) (sD K mb) D' σ H := by
  obtain ⟨ρ, σd, S, out, hs, he, hm, q⟩ := h
  obtain ⟨⟨ds, S1⟩, h1, hm⟩ := Option.bind_eq_some_iff.mp hm
  refine ⟨ρ, σd, S, ds, S1, hs, he, h1, fun ρ1 J H1 e1 s1 iok => ?_⟩
  refine ⟨fun i m σ H => m = ds.length - i ∧ ∃ ρ' σd' S', Ext ρ1 H1 ρ' H ∧ SRel ρ' H S' ∧ RelE K ρ' H σd' σ ∧ forM g mb (ds.drop i) σd' S' = some out, ⟨ds.length, rfl, ρ1, σd, S1, .refl, s1, he.ext e1, by simpa using hm⟩, ?_⟩
  rintro i m σ2 H2 ⟨rfl, ρ2, σd2, S2, e2, s2, he2, hf⟩
  obtain ⟨stop, go⟩ := iok ρ2 H2 S2 e2 s2 i
  by_cases hi : i < ds.length
  · obtain ⟨d, hd⟩ : ∃ d, ds[i]? = some d := ⟨ds[i], by simp [hi]⟩
    obtain ⟨hgo, hy⟩ := go d hd
    have hdr : ds.drop i = d :: ds.drop (i + 1) := by
      rw [List.drop_eq_getElem_cons hi]
      congr 1
      have := List.getElem?_eq_getElem hi
      rw [this] at hd
      exact Option.some.inj hd
    rw [hdr] at hf
    obtain ⟨σ3, h3, hf⟩ := Option.bind_eq_some_iff.mp hf
    obtain ⟨o, h4, hf⟩ := Option.bind_eq_some_iff.mp hf
    refine .inr ⟨hgo, fun σ' H' => ∃ ρ' σd' S', Ext ρ1 H1 ρ' H' ∧ SRel ρ' H' S' ∧ RelE K ρ' H' σd' σ' ∧ forM g mb (ds.drop (i + 1)) σd' S' = some out, ?_, ?_⟩
    · rintro σ' H' hN
      exact ⟨ds.length - (i + 1), by omega, rfl, hN⟩
    · intro x H3 hyl
      obtain ⟨gr, rx⟩ := hy x H3 hyl
      have e3 : Ext ρ2 H2 ρ2 H3 := Ext.gr gr
      refine ⟨ρ2, σd2, S2, .d d, σ3, s2.gr gr, he2.ext e3, rx, h3, fun ρ4 σ4 H4 e4 s4 r4 => ?_⟩
      refine ⟨ρ4, σ3, S2, o, s4, r4, h4, ?_⟩
      have e14 : Ext ρ1 H1 ρ4 H4 := (e2.trans e3).trans e4
      cases o with
      | nx σ5 S5 => exact fun ρ6 σ6 H6 e6 s6 r6 => ⟨ρ6, σ5, S5, e14.trans e6, s6, r6, hf⟩
      | ct σ5 S5 => exact fun ρ6 σ6 H6 e6 s6 r6 => ⟨ρ6, σ5, S5, e14.trans e6, s6, r6, hf⟩
      | bk σ5 S5 =>
        cases hf
        exact fun ρ6 σ6 H6 e6 s6 r6 => q ρ6 σ6 H6 ((e1.trans e14).trans e6) s6 r6
      | rt w S5 =>
        cases hf
        exact fun ρ6 σ6 H6 e6 s6 r6 => q ρ6 σ6 H6 ((e1.trans e14).trans e6) s6 r6
  · have : ds.drop i = [] := List.drop_eq_nil_of_le (by omega)
    rw [this] at hf
    cases hf
    exact .inl ⟨stop (by omega), q ρ2 σ2 H2 (e1.trans e2) s2 he2⟩
theorem d_for {iter : Expr} {body : List Stmt} {mi : MI} {g : MG} {mb : MS} (hp : PassesOwn (model X.prog X.w) X.A X.env X.xe) (hc : X.calm = true) (hi : PDI X tg iter mi) (hg : PDG X tg g) (hb : PDSs X body mb)
    (hs : ∀ x, foldedSetIterable iter X.env x = pure x := by intro _; rfl) : PDS X (.For tg iter body [] pos) (mFor mi g mb) := psImp (ps_for hp hc hi hg hb hs) fun _ _ _ h => for_of h

/-! while -/
def whileM (c : MT) (b : MS) : Nat → MS
  | 0, _, _ => none
  | n + 1, σ, S => (c σ S).bind fun r => if r.1 = true then (b σ r.2).bind fun o => match o with
    | .nx σ2 S2 => whileM c b n σ2 S2
    | .ct σ2 S2 => whileM c b n σ2 S2
    | .bk σ2 S2 => some (.nx σ2 S2)
    | .rt w S2 => some (.rt w S2)
    else some (.nx σ r.2)
theorem d_while (n : Nat) {body : List Stmt} {mc : MT} {mb : MS} (hp : PassesOwn (model X.prog X.w) X.A X.env X.xe) (hc : PDT X c mc) (hb : PDSs X body mb) : PDS X (.While c body [] pos) (whileM mc mb n) :=
  psImp (ps_while hp hc hb) fun D σ H ⟨ρ, σd, S, out, hs, he, hm, q⟩ => by
    refine ⟨fun m σ H' => ∃ ρ' σd' S', Ext ρ H ρ' H' ∧ SRel ρ' H' S' ∧ RelE X.K ρ' H' σd' σ ∧ whileM mc mb m σd' S' = some out, ⟨n, ρ, σd, S, .refl, hs, he, hm⟩, ?_⟩
    rintro m σ1 H1 ⟨ρ1, σd1, S1, e1, s1, he1, hm1⟩
    cases m with
    | zero => cases hm1
    | succ m =>
      obtain ⟨⟨k, S2⟩, h2, hm1⟩ := Option.bind_eq_some_iff.mp hm1
      refine ⟨ρ1, σd1, S1, k, S2, s1, he1, h2, fun ρ2 H2 e2 s2 => ?_⟩
      cases k with
      | true =>
        rw [if_pos rfl] at hm1 ⊢
        obtain ⟨o, h3, hm1⟩ := Option.bind_eq_some_iff.mp hm1
        refine ⟨fun σ H' => ∃ ρ' σd' S', Ext ρ H ρ' H' ∧ SRel ρ' H' S' ∧ RelE X.K ρ' H' σd' σ ∧ whileM mc mb m σd' S' = some out, fun σ' H' hN => ⟨m, by omega, hN⟩, ρ2, σd1, S2, o, s2, he1.ext e2, h3, ?_⟩
        have e12 := e1.trans e2
        cases o with
        | nx σ5 S5 => exact fun ρ6 σ6 H6 e6 s6 r6 => ⟨ρ6, σ5, S5, e12.trans e6, s6, r6, hm1⟩
        | ct σ5 S5 => exact fun ρ6 σ6 H6 e6 s6 r6 => ⟨ρ6, σ5, S5, e12.trans e6, s6, r6, hm1⟩
        | bk σ5 S5 =>
          cases hm1
          exact fun ρ6 σ6 H6 e6 s6 r6 => q ρ6 σ6 H6 (e12.trans e6) s6 r6
        | rt w S5 =>
          cases hm1
          exact fun ρ6 σ6 H6 e6 s6 r6 => q ρ6 σ6 H6 (e12.trans e6) s6 r6
      | false =>
        rw [if_neg Bool.false_ne_true] at hm1 ⊢
        cases hm1
        exact q ρ2 σ1 H2 (e1.trans e2) s2 (he1.ext e2)

/-! comprehensions -/
@[simp] def wipeD (σ : Env) : List Nat → Env
  | [] => σ
  | v :: vs => (wipeD σ vs).set v none
theorem RelE.none {K : PySem.W.Frag} {ρ : Rho} {H : Hp} {σd : Env} {σ : L2.St} (h : RelE K ρ H σd σ) (i : Nat) : RelE K ρ H (σd.set i none) (σ.set i none) := by
  refine ⟨by simp [h.len], fun j u e => ?_⟩
  by_cases hj : i = j
  · subst hj
    rw [List.getElem?_set] at e
    rw [if_pos rfl] at e
    split at e <;> cases e
  · rw [List.getElem?_set_ne hj] at e
    obtain ⟨x, h1, h2⟩ := h.get j u e
    exact ⟨x, by rw [List.getElem?_set_ne hj]; exact h1, h2⟩
theorem RelE.wipe {K : PySem.W.Frag} {ρ : Rho} {H : Hp} {σd : Env} {σ : L2.St} (h : RelE K ρ H σd σ) : ∀ vs : List Nat, RelE K ρ H (wipeD σd vs) (L2.wipe σ vs)
  | [] => h
  | v :: vs => (RelE.wipe h vs).none v
abbrev PDTs (X : Cx) (ifs : List Expr) (m : MT) : Prop := PTs X ifs (tDT X.K m)
theorem ptsImp {ifs : List Expr} {t t' : TT} (h : PTs X ifs t) (i : ∀ σ H Q, t' σ H Q → t σ H Q) : PTs X ifs t' := ⟨fun pins s σ H Q I q => h.run pins s σ H Q I (i σ H Q q)⟩
@[simp] def mYes : MT := fun _ S => some (true, S)
theorem dts_nil : PDTs X [] mYes := ptsImp pts_nil fun σ H Q ⟨ρ, σd, S, k, S', hs, he, hm, q⟩ => by
  cases hm
  exact q ρ H .refl hs
theorem dts_one {mt : MT} (h : PDT X c mt) : PDTs X [c] mt := pts_one h
@[simp] def compM (g : MG) (t : MT) (m : ME) : List D → Env → Sto → List D → Option (List D × Sto)
  | [], _, S, acc => some (acc, S)
  | d :: ds, σ, S, acc => (g (.d d) σ).bind fun σ1 => (t σ1 S).bind fun k => if k.1 = true then (m σ1 k.2).bind fun r => (asD1 r.1).bind fun x => if fits (acc.length + 1) = true then compM g t m ds σ r.2 (acc ++ [x]) else none
    else compM g t m ds σ k.2 acc
@[simp] def mComp (mi : MI) (g : MG) (t : MT) (m : ME) (vs : List Nat) : ME := fun σ S => (mi σ S).bind fun r => (compM g t m r.1 (wipeD σ vs) r.2 []).map fun q => (.d (.list q.1), q.2)
/-! the slots of a block -/
theorem wipe_get {σ : L2.St} {j : Nat} : ∀ {vs : List Nat}, (L2.wipe σ vs)[j]? = if j ∈ vs then (σ[j]?).map fun _ => none else σ[j]?
  | [] => by simp [L2.wipe]
  | v :: vs => by
    unfold L2.wipe
    by_cases hj : v = j
    · subst hj
      rw [List.getElem?_set]
      rw [if_pos rfl, L2.wipe_length, if_pos List.mem_cons_self]
      split
      · rename_i h; simp [h]
      · rename_i h; simp [h]
    · rw [List.getElem?_set_ne hj, wipe_get (vs := vs)]
      by_cases h : j ∈ vs
      · rw [if_pos h, if_pos (List.mem_cons_of_mem _ h)]
      · rw [if_neg h, if_neg (by simp only [List.mem_cons, not_or]; exact ⟨fun e => hj e.symm, h⟩)]
theorem wipe_idem (σ : L2.St) (vs : List Nat) : L2.wipe (L2.wipe σ vs) vs = L2.wipe σ vs := by
  apply List.ext_getElem?
  intro j
  rw [wipe_get, wipe_get]
  by_cases h : j ∈ vs
  · rw [if_pos h, if_pos h, Option.map_map]; rfl
  · rw [if_neg h, if_neg h]
theorem wipe_set (σ : L2.St) (vs : List Nat) (i : Nat) (x : Option V) (h : i ∈ vs) : L2.wipe (σ.set i x) vs = L2.wipe σ vs := by
  apply List.ext_getElem?
  intro j
  rw [wipe_get, wipe_get]
  by_cases hj : j ∈ vs
  · rw [if_pos hj, if_pos hj]
    by_cases e : i = j
    · subst e
      rw [List.getElem?_set, if_pos rfl]
      split
      · rename_i hl; simp [hl]
      · rename_i hl; simp [hl]
    · rw [List.getElem?_set_ne e]
  · rw [if_neg hj, if_neg hj]
    rw [List.getElem?_set_ne (by rintro rfl; exact hj h)]
/-- a target within a comprehension: it stores into the block's own slots alone -/
def gC (K : PySem.W.Frag) (vs : List Nat) (g : MG) : TG := fun v σ H Q => ∃ ρ σd S w σ1, SRel ρ H S ∧ RelE K ρ H σd σ ∧ RelW K ρ H w v ∧ g w σd = some σ1 ∧ ∀ ρ' σ' H', Ext ρ H ρ' H' → SRel ρ' H' S → RelE K ρ' H' σ1 σ' → L2.wipe σ' vs = L2.wipe σ vs → Q σ' H'
abbrev PDGc (X : Cx) (vs : List Nat) (e : Expr) (g : MG) : Prop := PG X e (gC X.K vs g)
theorem dgc_name (i : Nat) {vs : List Nat} {x : Str} (hN : X.N.Nodup) (hx : Loc X.env.scope x) (hi : X.N[i]? = some x) (hv : i ∈ vs) (hf : X.fn x = true ∨ X.env.scope.names.lookup x = some .local) : PDGc X vs (.Name x pos) (gN i) :=
  pgImp (pg_name hN hi hx hf) fun v σ H Q ⟨ρ, σd, S, w, σ1, hs, he, r, hg, q⟩ => by
    cases hg
    exact q ρ _ H .refl hs (he.set r i) (wipe_set σ vs i _ hv)
def gCs (K : PySem.W.Frag) (vs : List Nat) (g : MGs) : TGs := fun us σ H Q => ∃ ρ σd S ds σ1, SRel ρ H S ∧ RelE K ρ H σd σ ∧ RepL ρ H ds us ∧ g ds σd = some σ1 ∧ ∀ ρ' σ' H', Ext ρ H ρ' H' → SRel ρ' H' S → RelE K ρ' H' σ1 σ' → L2.wipe σ' vs = L2.wipe σ vs → Q σ' H'
abbrev PDGcs (X : Cx) (vs : List Nat) (es : List Expr) (g : MGs) : Prop := PGs X es (gCs X.K vs g)
theorem dgcs_nil {vs : List Nat} : PDGcs X vs [] gNil := pgsImp pgs_nil fun us σ H Q ⟨ρ, σd, S, ds, σ1, hs, he, r, hg, q⟩ => by
  cases ds with
  | nil => cases hg; cases r; exact ⟨rfl, q ρ σ H .refl hs he rfl⟩
  | cons d ds => cases hg
theorem dgcs_cons {vs : List Nat} {g : MG} {r : MGs} (h1 : PDGc X vs e g) (h2 : PDGcs X vs es r) (hs : (assignEach (e :: es) X.env).map (·.2) = assign e X.env :: (assignEach es X.env).map (·.2) := by rfl) : PDGcs X vs (e :: es) (gCons g r) :=
  pgsImp (pgs_cons h1 h2 hs) fun us σ H Q ⟨ρ, σd, S, ds, σ1, hs, he, rr, hg, q⟩ => by
    cases ds with
    | nil => cases hg
    | cons d ds =>
      cases rr with
      | cons r1 r2 =>
        obtain ⟨σ2, h3, h4⟩ := Option.bind_eq_some_iff.mp hg
        exact ⟨_, _, rfl, ρ, σd, S, .d d, σ2, hs, he, r1, h3, fun ρ1 σ' H1 e1 s1 q1 w1 => ⟨ρ1, σ2, S, ds, σ1, s1, q1, r2.ext e1, h4, fun ρ2 σ'' H2 e2 s2 q2 w2 => q ρ2 σ'' H2 (e1.trans e2) s2 q2 (w2.trans w1)⟩⟩
theorem dgc_tup {vs : List Nat} {k : Nat} {n : Nat} {r : MGs} (hc : X.calm = true) (h : PDGcs X vs es r) (hn : (assignEach es X.env).length = n := by rfl) (hst : (assignEach es X.env).findIdx? (·.1) = none := by rfl) : PDGc X vs (.Tuple es k pos) (gTup n r) :=
  pgImp (pg_tup hc h hn hst) fun v σ H Q ⟨ρ, σd, S, w, σ1, hs, he, rr, hg, q⟩ => by
    obtain ⟨ds, h1, h2⟩ := Option.bind_eq_some_iff.mp hg
    obtain ⟨a, us, rfl, ht, hr⟩ := asT_rel rr h1
    split at h2
    · rename_i hl
      exact ⟨a, us, rfl, ht, by rw [← hr.length]; exact of_decide_eq_true hl, ρ, σd, S, ds, σ1, hs, he, hr, h2, q⟩
    · cases h2
theorem comp_of {K : PySem.W.Frag} {mi : MI} {g : MG} {mt : MT} {m : ME} {vs : List Nat} {σ : L2.St} {H : Hp} {Q : VK}
    (h : tD K (mComp mi g mt m vs) σ H Q) : tLc (iD K mi) (gC K vs g) (tDT K mt) (tD K m) vs σ H Q := by
  obtain ⟨ρ, σd, S, w, S', hs, he, hm, q⟩ := h
  obtain ⟨⟨ds, S1⟩, h1, hm⟩ := Option.bind_eq_some_iff.mp hm
  rw [Option.map_eq_some_iff] at hm
  obtain ⟨⟨out, S2⟩, h2, h3⟩ := hm
  cases h3
  refine ⟨ρ, σd, S, ds, S1, hs, he, h1, fun ρ1 J H1 e1 s1 iok => ?_⟩
  intro Dd hD
  have hbl := block_mv (ρ := ρ1) (o := .lst []) hD
  have e0 : Ext ρ1 H1 (ρ1.block Dd) (upd H1 Dd (.lst [])) := ⟨fun a o ha na => ⟨(Ext.new (ρ := ρ1) hD).keep a o ha na |>.1, na⟩, fun _ _ _ h => h, Nat.le_refl _, none_of_upd, fun a h => (List.mem_cons.mp h).elim (fun z => .inr (z ▸ hD)) .inl, fun a h => List.mem_cons_of_mem _ h⟩
  refine ⟨fun i n H' => n = ds.length - i ∧ ∃ ρ' S' acc us, Ext ρ1 H1 ρ' H' ∧ Dd ∈ ρ'.b ∧ SRel ρ' H' S' ∧ RelE K ρ' H' (wipeD σd vs) (L2.wipe σ vs) ∧ H' Dd = some (.lst us) ∧ RepL ρ' H' acc us ∧ compM g mt m (ds.drop i) (wipeD σd vs) S' acc = some (out, S2), ?_, ?_⟩
  · exact ⟨ds.length, rfl, ρ1.block Dd, S1, [], [], e0, List.mem_cons_self, s1.blocked hD, ((he.ext e1).wipe vs).mv hbl rfl, upd_same, .nil, by simpa using h2⟩
  rintro i n H2 ⟨rfl, ρ2, S3, acc, us, e2, b2, s2, he2, hD2, ra, hf⟩
  have nD2 : some Dd ∉ ρ2.l := (s2.blk Dd b2).2
  obtain ⟨stop, go⟩ := iok _ H2 S3 e2 s2 i
  by_cases hi : i < ds.length
  · obtain ⟨d, hd⟩ : ∃ d, ds[i]? = some d := ⟨ds[i], by simp [hi]⟩
    obtain ⟨hgo, hy⟩ := go d hd
    have hdr : ds.drop i = d :: ds.drop (i + 1) := by
      rw [List.drop_eq_getElem_cons hi]
      congr 1
      have := List.getElem?_eq_getElem hi
      rw [this] at hd
      exact Option.some.inj hd
    rw [hdr] at hf
    obtain ⟨σ3, h3, hf⟩ := Option.bind_eq_some_iff.mp hf
    obtain ⟨⟨k, S4⟩, h4, hf⟩ := Option.bind_eq_some_iff.mp hf
    refine .inr ⟨hgo, fun H' => ∃ ρ' S' acc us, Ext ρ1 H1 ρ' H' ∧ Dd ∈ ρ'.b ∧ SRel ρ' H' S' ∧ RelE K ρ' H' (wipeD σd vs) (L2.wipe σ vs) ∧ H' Dd = some (.lst us) ∧ RepL ρ' H' acc us ∧ compM g mt m (ds.drop (i + 1)) (wipeD σd vs) S' acc = some (out, S2), fun H' hN => ⟨ds.length - (i + 1), by omega, rfl, hN⟩, ?_⟩
    intro x H3 hyl
    obtain ⟨gr, rx⟩ := hy x H3 hyl
    have e3 : Ext ρ2 H2 ρ2 H3 := Ext.gr gr
    refine ⟨ρ2, wipeD σd vs, S3, .d d, σ3, s2.gr gr, he2.ext e3, rx, h3, fun ρ4 σ4 H4 e4 s4 r4 w4 => ⟨by rw [w4, wipe_idem], ?_⟩⟩
    refine ⟨ρ4, σ3, S3, k, S4, s4, r4, h4, fun ρ5 H5 e5 s5 => ?_⟩
    have e25 : Ext ρ2 H2 ρ5 H5 := (e3.trans e4).trans e5
    obtain ⟨hD5, nD5⟩ := e25.keep _ _ hD2 nD2
    cases k with
    | true =>
      dsimp only at hf ⊢
      rw [if_pos rfl] at hf ⊢
      obtain ⟨⟨w6, S6⟩, h6, hf⟩ := Option.bind_eq_some_iff.mp hf
      obtain ⟨x6, hx6, hf⟩ := Option.bind_eq_some_iff.mp hf
      refine ⟨ρ5, σ3, S4, w6, S6, s5, r4.ext e5, h6, fun ρ6 v6 H6 e6 s6 r6 => ?_⟩
      have e26 := e25.trans e6
      obtain ⟨hD6, nD6⟩ := e26.keep _ _ hD2 nD2
      have b6 := e26.bsub _ b2
      dsimp only at hf
      split at hf
      · rename_i hfit
        have r6' : Rep ρ6 H6 x6 v6 := by
          cases w6 with
          | d y => cases hx6; exact r6
          | _ => cases hx6
        have e16 := e2.trans e26
        refine ⟨us, hD6, by rw [← ra.length]; exact fits_lt hfit, ρ6, S6, acc ++ [x6], us ++ [v6], ?_, b6, s6.blkW b6, (he2.ext e26).mv (blk_mv b6) rfl, upd_same, ?_, hf⟩
        · exact ⟨fun a o ha na => by
            have hne : a ≠ Dd := ne_of_none ha hD
            rw [upd_ne hne]
            exact e16.keep a o ha na, e16.loc, e16.len, fun a h => e16.dom a (none_of_upd a h), e16.bnew, e16.bsub⟩
        · exact ((ra.ext e26).append (.cons r6' .nil)).mv (blk_mv b6)
      · cases hf
    | false =>
      dsimp only at hf ⊢
      rw [if_neg Bool.false_ne_true] at hf ⊢
      exact ⟨ρ5, S4, acc, us, e2.trans e25, e25.bsub _ b2, s5, he2.ext e25, hD5, ra.ext e25, hf⟩
  · have hn : ds.drop i = [] := List.drop_eq_nil_of_le (by omega)
    rw [hn] at hf
    cases hf
    have hsub : ∀ a, a ∈ ρ2.b.filter (fun a => decide (a ≠ Dd)) → a ∈ ρ2.b := fun a h => (List.mem_filter.mp h).1
    have e2' : Ext ρ1 H1 ⟨ρ2.l, ρ2.b.filter (fun a => decide (a ≠ Dd))⟩ H2 := ⟨e2.keep, e2.loc, e2.len, e2.dom, fun a h => e2.bnew a (hsub a h), fun a h => List.mem_filter.mpr ⟨e2.bsub a h, by
      have : a ≠ Dd := fun z => s1.freshb hD (z ▸ h)
      simpa using this⟩⟩
    refine .inl ⟨stop (by omega), q ⟨ρ2.l, ρ2.b.filter (fun a => decide (a ≠ Dd))⟩ _ H2 (e1.trans e2') (s2.unblock hsub) (.lst hD2 ⟨nD2, fun z => ?_⟩ (ra.sub (unblock_fr hsub)))⟩
    have := (List.mem_filter.mp z).2
    simp at this
/-- [elt for target in iter if ..] -/
theorem d_comp {elt iter : Expr} {ifs : List Expr} {scope : Scope} (own : List (Str × Nat)) {mi : MI} {g : MG} {mt : MT} {m : ME} (hc : X.calm = true) (hN : X.N.Nodup) (hi : PDI X tg iter mi) (ok : BlkOk X.N X.env.scope scope own)
    (hg : ∀ (s : Shared) (H : Hp) (C : Addr) (cl : List (Str × Addr)) (fp : List Addr), PDGc (X.blk s H scope (compEnvC scope cl C X.env) fp) (own.map (·.2)) tg g) (ht : ∀ (s : Shared) (H : Hp) (C : Addr) (cl : List (Str × Addr)) (fp : List Addr), PDTs (X.blk s H scope (compEnvC scope cl C X.env) fp) ifs mt)
    (he : ∀ (s : Shared) (H : Hp) (C : Addr) (cl : List (Str × Addr)) (fp : List Addr), PD (X.blk s H scope (compEnvC scope cl C X.env) fp) elt m) (hs : ∀ x, foldedSetIterable iter X.env x = pure x := by intro _; rfl) :
    PD X (.ListComp elt [⟨tg, iter, ifs, 0⟩] scope pos) (mComp mi g mt m (own.map (·.2))) := peImp (pe_lc hc hN hi ok hg ht he hs) fun _ _ _ h => comp_of h
theorem d_setComp (i : Nat) {y : Str} {py spos : Pos} {elt iter : Expr} {ifs : List Expr} {scope : Scope} (own : List (Str × Nat)) {mi : MI} {g : MG} {mt : MT} {m : ME} (hc : X.calm = true) (hN : X.N.Nodup) (hy : X.N[i]? = some y) (hyl : X.env.scope.names.lookup y = some .local)
    (hsw : swapsWith (.ListComp elt [⟨tg, iter, ifs, 0⟩] scope pos) (some (.Name y py)) spos.line X.env = pure true) (hi : PDI X tg iter mi) (ok : BlkOk X.N X.env.scope scope own)
    (hg : ∀ (s : Shared) (H : Hp) (C : Addr) (cl : List (Str × Addr)) (fp : List Addr), PDGc (X.blk s H scope (compEnvC scope cl C X.env) fp) (own.map (·.2)) tg g) (ht : ∀ (s : Shared) (H : Hp) (C : Addr) (cl : List (Str × Addr)) (fp : List Addr), PDTs (X.blk s H scope (compEnvC scope cl C X.env) fp) ifs mt)
    (he : ∀ (s : Shared) (H : Hp) (C : Addr) (cl : List (Str × Addr)) (fp : List Addr), PD (X.blk s H scope (compEnvC scope cl C X.env) fp) elt m) (hs : ∀ x, foldedSetIterable iter X.env x = pure x := by intro _; rfl) :
    PDS X (.Assign [.Name y py] (.ListComp elt [⟨tg, iter, ifs, 0⟩] scope pos) spos) (mAsg i (mComp mi g mt m (own.map (·.2)))) :=
  psImp (ps_setLc hc hN hy hyl hsw hi ok hg ht he hs) fun D σ H h => by
    obtain ⟨ρ, σd, S, out, hs, he, hm, q⟩ := h
    unfold mAsg at hm
    rw [Option.map_eq_some_iff] at hm
    obtain ⟨⟨w, S1⟩, h1, h2⟩ := hm
    cases h2
    exact comp_of ⟨ρ, σd, S, w, S1, hs, he, h1, fun ρ1 v H1 e1 s1 r1 => q ρ1 _ H1 e1 s1 ((he.ext e1).set r1 i)⟩
end

/-! defs -/
abbrev Fn := List W → Sto → Option (W × Sto)
def spD (K : PySem.W.Frag) (n : Nat) (f : Fn) : Sp := fun vs H Q _ => ∃ ρ S ws w S', SRel ρ H S ∧ RelWs K ρ H ws vs ∧ ws.length = n ∧ f ws S = some (w, S') ∧ ∀ ρ' v H', Ext ρ H ρ' H' → SRel ρ' H' S' → RelW K ρ' H' w v → Q v H'
/-- what is left of the store behind a def: what stood ahead of it, and what it hands back -/
def trim (n : Nat) (w : W) (S : Sto) : W × Sto := match w with
  | .loc i => if n ≤ i then (.loc n, S.take n ++ (S[i]?).toList) else (w, S.take n)
  | _ => (w, S.take n)
theorem trim_ok {K : PySem.W.Frag} {ρ ρ' : Rho} {H H' : Hp} {S S' : Sto} {w : W} {v : V} (s : SRel ρ H S) (e : Ext ρ H ρ' H') (s' : SRel ρ' H' S') (r : RelW K ρ' H' w v) :
    ∃ ρ2, Ext ρ H ρ2 H' ∧ SRel ρ2 H' (trim S.length w S').2 ∧ RelW K ρ2 H' (trim S.length w S').1 v := by
  have cut : ∀ (w : W), RelW K ρ' H' w v → (∀ i, w = .loc i → i < S.length) → ∃ ρ2, Ext ρ H ρ2 H' ∧ SRel ρ2 H' (S'.take S.length) ∧ RelW K ρ2 H' w v := fun w r hw => by
    refine ⟨ρ'.cut S.length, e.cut (by rw [s.len]; exact Nat.le_refl _), s'.cut, ?_⟩
    have hk : ∀ a, ρ'.Fr a → (ρ'.cut S.length).Fr a := fun a h => ⟨fun z => h.1 (List.mem_of_mem_take z), h.2⟩
    cases w with
    | d x => exact Rep.sub hk r
    | loc i =>
      have hi := hw i rfl
      refine ⟨?_, fun a ha => ?_⟩
      · show i < (ρ'.l.take S.length).length
        rw [List.length_take]
        have := r.1
        omega
      · have ha' : (ρ'.l.take S.length)[i]? = some (some a) := ha
        rw [List.getElem?_take_of_lt hi] at ha'
        exact r.2 a ha'
    | ct xs => exact r
    | sc ns =>
      obtain ⟨a, e1, h⟩ := r
      exact ⟨a, e1, h.imp (fun ⟨o, h1, h2⟩ => ⟨o, h1, hk a h2⟩) id⟩
    | v x => exact r
    | kd b kvs =>
      obtain ⟨a, us, e1, n, h1, h2, h3⟩ := r
      exact ⟨a, us, e1, hk a n, h1, h2, h3.sub hk⟩
    | td b kvs =>
      obtain ⟨a, us, e1, n, h1, h2, h3⟩ := r
      exact ⟨a, us, e1, hk a n, h1, h2, h3.sub hk⟩
  cases w with
  | loc i =>
    by_cases hi : S.length ≤ i
    · have ht : trim S.length (.loc i) S' = (.loc S.length, S'.take S.length ++ (S'[i]?).toList) := by simp only [trim]; rw [if_pos hi]
      rw [ht]
      refine ⟨ρ'.pick S.length i, e.pick (by rw [s.len]; exact Nat.le_refl _) hi r.1, s'.pick hi r.1, ?_, fun a ha => ?_⟩
      · show S.length < (ρ'.l.take S.length ++ (ρ'.l[i]?).toList).length
        have hlt := r.1
        rw [List.length_append, List.length_take]
        obtain ⟨y, ey⟩ : ∃ y, ρ'.l[i]? = some y := ⟨ρ'.l[i], by simp [hlt]⟩
        rw [ey]
        simp
        omega
      · have ha' : (ρ'.l.take S.length ++ (ρ'.l[i]?).toList)[S.length]? = some (some a) := ha
        rw [at_pick hi r.1] at ha'
        exact r.2 a ha'
    · have ht : trim S.length (.loc i) S' = (.loc i, S'.take S.length) := by simp only [trim]; rw [if_neg hi]
      rw [ht]
      exact cut _ r fun j hj => by cases hj; omega
  | d x => exact cut _ r fun j hj => by cases hj
  | ct x => exact cut _ r fun j hj => by cases hj
  | sc x => exact cut _ r fun j hj => by cases hj
  | v x => exact cut _ r fun j hj => by cases hj
  | kd b x => exact cut _ r fun j hj => by cases hj
  | td b x => exact cut _ r fun j hj => by cases hj
/-- a def by its body: n names in all -/
def fnD (n : Nat) (b : MS) : Fn := fun ws S => (b (ws.map some ++ List.replicate (n - ws.length) none) S).bind fun o => match o with
  | .nx _ S' => some (trim S.length (.d .none) S')
  | .rt w S' => some (trim S.length w S')
  | _ => none
theorem relE_start {K : PySem.W.Frag} {ρ : Rho} {H : Hp} {ws : List W} {vs : List V} (N : List Str) (r : RelWs K ρ H ws vs) : RelE K ρ H (ws.map some ++ List.replicate (N.length - ws.length) none) (L2.start N vs) := by
  have hl := r.length
  refine ⟨by simp [L2.start, hl], fun i w hi => ?_⟩
  have hi' : i < ws.length := by
    by_cases h : i < ws.length
    · exact h
    · rw [List.getElem?_append_right (by simpa using h), List.getElem?_replicate] at hi
      split at hi <;> cases hi
  rw [List.getElem?_append_left (by simpa using hi'), List.getElem?_map] at hi
  have hw : ws[i]? = some w := by
    cases q : ws[i]? with
    | none => rw [q] at hi; cases hi
    | some x => rw [q] at hi; cases hi; rfl
  have get : ∀ {ws : List W} {vs : List V} {i : Nat} {w : W}, RelWs K ρ H ws vs → ws[i]? = some w → ∃ v, vs[i]? = some v ∧ RelW K ρ H w v := by
    intro ws vs i w r
    induction r generalizing i with
    | nil => intro h; simp at h
    | cons a _ ih =>
      intro h
      cases i with
      | zero => simp at h; subst h; exact ⟨_, rfl, a⟩
      | succ i => simp at h; simpa using ih h
  obtain ⟨v, hv, rv⟩ := get r hw
  refine ⟨v, ?_, rv⟩
  unfold L2.start
  rw [List.getElem?_append_left (by rw [List.length_map, ← hl]; exact hi'), List.getElem?_map, hv]
  rfl
section
variable {P : Program} {w : World} {K : PySem.W.Frag} {mg : Str → Option Value} {base : Heap}
theorem spD_len {n : Nat} {f : Fn} {vs : List V} {H : Hp} {Q : VK} {E : XK} (h : spD K n f vs H Q E) : vs.length = n := by
  obtain ⟨ρ, S, ws, w, S', hs, hr, hl, _⟩ := h
  rw [← hr.length]; exact hl
theorem body_of {N ps : List Str} {b : MS} {vs : List V} {H : Hp} {Q : VK} {E : XK} (h : spD K ps.length (fnD N.length b) vs H Q E) : sD K b { nx := fun _ H' => Q .non H', rt := Q } (L2.start N vs) H := by
  obtain ⟨ρ, S, ws, w, S', hs, hr, hl, hf, q⟩ := h
  obtain ⟨o, h1, h2⟩ := Option.bind_eq_some_iff.mp hf
  refine ⟨ρ, _, S, o, hs, relE_start N hr, h1, ?_⟩
  cases o with
  | nx σ1 S1 =>
    refine fun ρ1 σ' H1 e1 s1 r1 => ?_
    obtain ⟨ρ2, e2, s2, r2⟩ := trim_ok (K := K) (w := .d .none) (v := .non) hs e1 s1 .non
    have h2' := Option.some.inj h2
    rw [h2'] at s2 r2
    exact q ρ2 .non H1 e2 s2 r2
  | rt u S1 =>
    refine fun ρ1 v H1 e1 s1 r1 => ?_
    obtain ⟨ρ2, e2, s2, r2⟩ := trim_ok hs e1 s1 r1
    have h2' := Option.some.inj h2
    rw [h2'] at s2 r2
    exact q ρ2 v H1 e2 s2 r2
  | bk σ1 S1 => cases h2
  | ct σ1 S1 => cases h2
/-- THE RULE for a def -/
theorem fn_ok {x qual : Str} {st : Stmt} {f : Addr} {fd : FuncData} {N ps : List Str} {k : Nat} {b : MS} (F : Fun K x qual st f fd) (S : FnScope N ps (defScope st))
    (hb : ∀ (cdv : Value) (A : Around) (outer : List PySem.Env) (s : Shared) (H : Hp) (E : XK), Room k (A.deeper (envOfC qual (defScope st) s.heap.objs.size f cdv)) →
      PDSs (cxOf CX0 P w K mg base N qual (defScope st) f cdv A outer s H E).nox (defBody st) b) : FnOk P w K mg base CX0 (k + 1) f fd ps (spD K ps.length (fnD N.length b)) :=
  F.ok S (fun vs H Q E h => spD_len h) fun cdv A outer s H vs Q E hr h => ⟨_, hb cdv A outer s H E hr, body_of h⟩
end
end DL

set_option Elab.async false
set_option linter.all false
set_option maxRecDepth 100000
set_option autoImplicit false
/-! The data layer, 5: defs that are called where no guard stands (so that repr may be asked), calls, the law's end. -/
noncomputable section
namespace DL
open PySem PySem.Spec PyProof.Rows L2

/-- a promise that is kept where no guard stands -/
structure FnG (P : Program) (w : World) (K : PySem.W.Frag) (mg : Str → Option Value) (base : Heap) (CX : CXT) (k : Nat) (f : Addr) (fd : FuncData) (ps : List Str) (sp : Sp) : Prop where
  len : ∀ vs H Q E, sp vs H Q E → vs.length = ps.length
  run : ∀ (A : Around), A.guards = some [] → Room k A → ∀ (outer : List PySem.Env) (s : Shared) (H : Hp), Env0 P w K mg base A outer s H → ∀ (args : Args) (us : List Value) (vs : List V), BindsTo s fd args (ps.zip us) → Vals vs us →
    ∀ (Q : VK) (E : XK), sp vs H Q E → codeAny (model P w) A (.call (.ref f) args) (CR CX outer P w H s Q E) s

section
variable {P : Program} {w : World} {K : PySem.W.Frag} {mg : Str → Option Value} {base : Heap} {CX : CXT}
theorem FnG.mono {j k : Nat} {f : Addr} {fd : FuncData} {ps : List Str} {sp : Sp} (F : FnG P w K mg base CX j f fd ps sp) (h : j ≤ k) : FnG P w K mg base CX k f fd ps sp :=
  ⟨F.len, fun A g hr => F.run A g (hr.mono h)⟩
theorem FnG.imp {k : Nat} {f : Addr} {fd : FuncData} {ps : List Str} {sp sp' : Sp} (F : FnG P w K mg base CX k f fd ps sp) (h : ∀ vs H Q E, sp' vs H Q E → sp vs H Q E) : FnG P w K mg base CX k f fd ps sp' :=
  ⟨fun vs H Q E q => F.len vs H Q E (h _ _ _ _ q), fun A g hr outer s H e0 args us vs hb hv Q E q => F.run A g hr outer s H e0 args us vs hb hv Q E (h _ _ _ _ q)⟩
/-- what is never asked is kept -/
theorem FnG.never {k : Nat} {f : Addr} {fd : FuncData} {ps : List Str} {sp : Sp} (h : ∀ vs H Q E, ¬ sp vs H Q E) : FnG P w K mg base CX k f fd ps sp :=
  ⟨fun vs H Q E q => (h _ _ _ _ q).elim, fun A g hr outer s H e0 args us vs hb hv Q E q => (h _ _ _ _ q).elim⟩

/-- a def by its body's reading, where no guard stands -/
theorem fnG_of {k : Nat} {f : Addr} {name qual : Str} {params : Arguments} {body : List Stmt} {scope : Scope} {dvs : List V} {kws : List (Str × V)} {fd : FuncData} {N ps : List Str} {sp : Sp} (F : FunD K name qual params body scope dvs kws f fd)
    (S : FnScope N ps scope) (len : ∀ vs H Q E, sp vs H Q E → vs.length = ps.length)
    (hb : ∀ (cdv : Value) (A : Around) (outer : List PySem.Env) (s : Shared) (H : Hp) (vs : List V) (Q : VK) (E : XK), A.guards = some [] → Room k (A.deeper (envOfC qual scope s.heap.objs.size f cdv)) → sp vs H Q E →
      ∃ t, PSs (cxOf CX P w K mg base N qual scope f cdv A outer s H E) body t ∧ t { nx := fun _ H' => Q .non H', rt := Q } (L2.start N vs) H) :
    FnG P w K mg base CX (k + 1) f fd ps sp := by
  obtain ⟨oc, od, dV, kV, doc, pm, an, cdv, ct, osl, rfl, lk, hcd, _, _⟩ := F.ex
  refine ⟨len, fun A hg hr outer s H e0 args us vs hbind r Q E hsp => ?_⟩
  have kin : K.In s.heap := e0.mod.kin.keeps fun b o e => (e0.bs b o e).1
  have lim : s.heap.NoLimit := e0.mod.nolimit.keeps fun b o e => (e0.bs b o e).1
  refine Att.call_fn kin lim lk hcd hr.depth hbind ?_ (fun s1 x => ?_) S.co S.gen S.kind
  · rw [List.all_eq_true]
    rintro ⟨n, v⟩ hy
    rcases S.par n (List.of_mem_zip hy).1 with q | q
    · simp [q]
    · simp [q]
  · obtain ⟨t, ht, hq⟩ := hb cdv A outer s H vs Q E hg (hr.deeper _) hsp
    have I := inv_start (CX := CX) (E := E) S hr.hd e0 (len _ _ _ _ hsp) r x
    refine wpAny_mono (ht.run [] s1 _ H _ I hq) (fun fl s' hs => ?_) fun e s' hs => hs
    cases fl with
    | ret u => obtain ⟨v, σ', H', J, rv, q⟩ := hs; exact ⟨v, H', J.os, J.bare, J.base, J.hok, rv, q⟩
    | next => obtain ⟨σ', H', J, q⟩ := hs; exact ⟨.non, H', J.os, J.bare, J.base, J.hok, rfl, q⟩
    | brk => obtain ⟨_, _, _, q⟩ := hs; exact q.elim
    | cont => obtain ⟨_, _, _, q⟩ := hs; exact q.elim
/-- THE RULE for a def of the top, in data -/
theorem fn_okG {x qual : Str} {st : Stmt} {f : Addr} {fd : FuncData} {N ps : List Str} {k : Nat} {b : MS} (F : FunD K x qual (defArgs st) (defBody st) (defScope st) [] [] f fd) (S : FnScope N ps (defScope st))
    (hb : ∀ (cdv : Value) (A : Around) (outer : List PySem.Env) (s : Shared) (H : Hp) (E : XK), A.guards = some [] → Room k (A.deeper (envOfC qual (defScope st) s.heap.objs.size f cdv)) →
      PDSs (cxOf CX0 P w K mg base N qual (defScope st) f cdv A outer s H E).nox (defBody st) b) : FnG P w K mg base CX0 (k + 1) f fd ps (spD K ps.length (fnD N.length b)) :=
  fnG_of F S (fun vs H Q E h => spD_len h) fun cdv A outer s H vs Q E hg hr h => ⟨_, (hb cdv A outer s H E hg hr).nox, body_of h⟩
theorem spD_none {n : Nat} {vs : List V} {H : Hp} {Q : VK} {E : XK} : ¬ spD K n (fun _ _ => none) vs H Q E := fun ⟨_, _, _, _, _, _, _, _, h, _⟩ => by cases h
end

/-! calls -/
section
variable {X : Cx} {k n : Nat} {f : Addr} {fd : FuncData} {ps : List Str} {g : Fn} {x : Str} {p pos : Pos} {e : Expr} {es : List Expr}
@[simp] def mCallF (n : Nat) (g : Fn) (m : MA) : ME := fun σ S => (m σ S).bind fun r => if decide (r.1.length = n) = true then g r.1 r.2 else none
theorem run_G {pins : List (Addr × Obj)} {σ : L2.St} {H : Hp} {s : Shared} {Q : VK} {args : Args} {us : List Value} {vs : List V} {sp : Sp} (F : FnG X.prog X.w X.K X.mg X.base CX0 k f fd ps sp) (hG : X.A.guards = some []) (hr : Room k X.A)
    (I : Inv X pins σ H s) (hb : BindsTo s fd args (ps.zip us)) (r : Vals vs us) (h : sp vs H Q E0) : codeAny (model X.prog X.w) X.A (.call (.ref f) args) (fun r s' => match r with | .ok (.ret u) => EP X pins σ Q u s' | .ok _ => False | .error e => X.xe e s') s := by
  refine codeAny_mono (F.run X.A hG hr X.stack s H I.env0 args us vs hb r Q E0 h) fun r s' hq => ?_
  cases r with
  | error e => exact hq.elim
  | ok fl =>
    cases fl with
    | ret u => exact I.after hq
    | next => exact hq.elim
    | brk => exact hq.elim
    | cont => exact hq.elim
theorem wp_of_code {pins : List (Addr × Obj)} {σ : L2.St} {s : Shared} {Q : VK} {us : List Value} {kw : List (Str × Value)} (h : codeAny (model X.prog X.w) X.A (.call (.ref f) ⟨us, kw⟩) (fun r s' => match r with | .ok (.ret u) => EP X pins σ Q u s' | .ok _ => False | .error e => X.xe e s') s) :
    wpAny (model X.prog X.w) X.A (call (.ref f) us kw) (EP X pins σ Q) X.xe s := by
  refine wpAny_call (codeAny_mono h fun r s' hq => ?_)
  cases r with
  | error e => exact hq
  | ok fl =>
    cases fl with
    | ret u => exact hq
    | next => exact hq.elim
    | brk => exact hq.elim
    | cont => exact hq.elim
theorem spD_of {K : PySem.W.Frag} {ρ : Rho} {H : Hp} {S S' : Sto} {ws : List W} {w : W} {vs : List V} {Q : VK} {E : XK} (hs : SRel ρ H S) (hr : RelWs K ρ H ws vs) (hm : (if decide (ws.length = n) = true then g ws S else none) = some (w, S'))
    (q : ∀ ρ' v H', Ext ρ H ρ' H' → SRel ρ' H' S' → RelW K ρ' H' w v → Q v H') : spD K n g vs H Q E := by
  split at hm
  · rename_i hl
    exact ⟨ρ, S, ws, w, S', hs, hr, of_decide_eq_true hl, hm, q⟩
  · cases hm
theorem d_call {m : MA} (F : FnG X.prog X.w X.K X.mg X.base CX0 k f fd ps (spD X.K n g)) (hG : X.A.guards = some []) (hr : Room k X.A) (hg : Gl X x) (hm : X.mg x = some (.ref f)) (hk : PySem.W.keepIn X.K (.ref f) = true) (hb : Binds X.K fd ps [])
    (ha : PDA X (e :: es) m) (hdb : (x == ("__debug__" : Str)) = false := by decide) (he : starEach (e :: es) X.env = (false, eval e X.env) :: starEach es X.env := by rfl) (hpl : (backTo pos (starEach es X.env)).any (·.1) = false := by rfl) :
    PD X (.Call (.Name x p) (e :: es) [] pos) (mCallF n g m) := by
  refine ⟨fun pins s σ H Q I h => ?_⟩
  obtain ⟨ρ, σd, S, w, S', hs, hE, hmm, q⟩ := h
  obtain ⟨⟨ws, S1⟩, h1, h2⟩ := Option.bind_eq_some_iff.mp hmm
  have arg : tDA X.K m σ H (fun vs H1 => spD X.K n g vs H1 Q E0) := ⟨ρ, σd, S, ws, S1, hs, hE, h1, fun ρ1 vs H1 e1 s1 r1 => spD_of s1 r1 h2 fun ρ2 v H2 e2 s2 r2 => q ρ2 v H2 (e1.trans e2) s2 r2⟩
  refine wpAny_Call_Name_kw (ld_glob I hg hm ?_ hdb)
  refine PySem.W.callWith_K (h₀ := X.base) I.ok.mod.kin hk (thn (ha.run pos pins s σ H _ I arg) fun us s1 ⟨vs, H1, I1, r, q1⟩ => ⟨I1.kIn, ?_⟩) he hpl
  have hl : us.length = ps.length := by rw [← r.length]; exact F.len _ _ _ _ q1
  have hbd := hb s1 us I1.kIn (by rw [List.append_nil]; exact hl)
  rw [List.append_nil] at hbd
  exact wp_of_code (run_G F hG hr I1 hbd r q1)
theorem d_call0 (F : FnG X.prog X.w X.K X.mg X.base CX0 k f fd ps (spD X.K n g)) (hG : X.A.guards = some []) (hr : Room k X.A) (hg : Gl X x) (hm : X.mg x = some (.ref f)) (hk : PySem.W.keepIn X.K (.ref f) = true) (hb : Binds X.K fd ps [])
    (hdb : (x == ("__debug__" : Str)) = false := by decide) : PD X (.Call (.Name x p) [] [] pos) (mCallF n g mNil) := by
  refine ⟨fun pins s σ H Q I h => ?_⟩
  obtain ⟨ρ, σd, S, w, S', hs, hE, hmm, q⟩ := h
  obtain ⟨⟨ws, S1⟩, h1, h2⟩ := Option.bind_eq_some_iff.mp hmm
  cases h1
  have q1 : spD X.K n g [] H Q E0 := spD_of hs .nil h2 q
  refine wpAny_Call_Name_kw (ld_glob I hg hm ?_ hdb)
  refine PySem.W.callWith_K0 I.kIn hk ?_
  have hl : ([] : List Value).length = ps.length := F.len _ _ _ _ q1
  have hbd := hb s [] I.kIn hl
  exact wp_of_code (run_G (us := []) F hG hr I hbd .nil q1)
/-- keywords alone: perm puts their values in the parameters' order -/
abbrev PDK (X : Cx) (kws : List Keyword) (m : MA) : Prop := PK X kws (tDA X.K m)
theorem dk_nil : PDK X [] mNil := ⟨fun pos pins s σ H Q I ⟨ρ, σd, S, ws, S', hs, he, hm, q⟩ => by
  cases hm
  exact pk_nil.run pos pins s σ H Q I (q ρ _ H .refl hs .nil)⟩
theorem dk_cons {kws : List Keyword} {nm : Option Str} {kpos : Pos} {me : ME} {m : MA} (ha : PD X e me) (hr : PDK X kws m) : PDK X (⟨nm, e, kpos⟩ :: kws) (mCons me m) :=
  ⟨fun pos pins s σ H Q I ⟨ρ, σd, S, ws, S', hs, he, hm, q⟩ => by
    obtain ⟨⟨w1, S1⟩, h1, hm⟩ := Option.bind_eq_some_iff.mp hm
    rw [Option.map_eq_some_iff] at hm
    obtain ⟨⟨ws, S2⟩, h2, h3⟩ := hm
    cases h3
    exact (pk_cons ha hr).run pos pins s σ H Q I ⟨ρ, σd, S, w1, S1, hs, he, h1, fun ρ1 v1 H1 e1 s1 r1 => ⟨ρ1, σd, S1, ws, _, s1, he.ext e1, h2, fun ρ2 vs H2 e2 s2 r2 => q ρ2 _ H2 (e1.trans e2) s2 (.cons (r1.ext e2) r2)⟩⟩⟩
/-- the i-th parameter is given by the (is[i])-th keyword -/
def permL {α : Type} (is : List Nat) (xs : List α) : List α := is.filterMap fun i => xs[i]?
theorem RelWs.perm {K : PySem.W.Frag} {ρ : Rho} {H : Hp} {ws : List W} {vs : List V} (r : RelWs K ρ H ws vs) : ∀ is : List Nat, RelWs K ρ H (permL is ws) (permL is vs)
  | [] => .nil
  | i :: is => by
    have get : ∀ {ws : List W} {vs : List V} {i : Nat}, RelWs K ρ H ws vs → (ws[i]? = none ∧ vs[i]? = none) ∨ ∃ w v, ws[i]? = some w ∧ vs[i]? = some v ∧ RelW K ρ H w v := by
      intro ws vs i r
      induction r generalizing i with
      | nil => exact .inl ⟨rfl, rfl⟩
      | cons a _ ih =>
        cases i with
        | zero => exact .inr ⟨_, _, rfl, rfl, a⟩
        | succ i => simpa using ih (i := i)
    have ih := RelWs.perm r is
    unfold permL at ih ⊢
    rcases get (i := i) r with ⟨h1, h2⟩ | ⟨w, v, h1, h2, h3⟩
    · simp only [List.filterMap_cons, h1, h2]; exact ih
    · simp only [List.filterMap_cons, h1, h2]; exact .cons h3 ih
theorem vals_perm {vs : List V} {us : List Value} (r : Vals vs us) : ∀ is : List Nat, Vals (permL is vs) (permL is us)
  | [] => .nil
  | i :: is => by
    have ih := vals_perm r is
    unfold permL at ih ⊢
    cases h : vs[i]? with
    | none =>
      have h2 := r.none_of h
      simp only [List.filterMap_cons, h, h2]; exact ih
    | some v =>
      obtain ⟨u, h2, h3⟩ := r.get h
      simp only [List.filterMap_cons, h, h2]; exact .cons h3 ih
@[simp] def mCallK (is : List Nat) (n : Nat) (g : Fn) (m : MA) : ME := fun σ S => (m σ S).bind fun r => if decide ((permL is r.1).length = n) = true then g (permL is r.1) r.2 else none
theorem d_callK {kws : List Keyword} {ks : List Str} {m : MA} (is : List Nat) (F : FnG X.prog X.w X.K X.mg X.base CX0 k f fd ps (spD X.K n g)) (hG : X.A.guards = some []) (hr : Room k X.A) (hg : Gl X x) (hm : X.mg x = some (.ref f)) (hk : PySem.W.keepIn X.K (.ref f) = true)
    (hb : ∀ (s : Shared) (ws : List Value), (permL is ws).length = ps.length → BindsTo s fd ⟨[], ks.zip ws⟩ (ps.zip (permL is ws)))
    (ha : PDK X kws m) (hall : (backToKw pos (keywordEach kws X.env)).all (·.1.isSome) = true := by rfl) (hks : (backToKw pos (keywordEach kws X.env)).filterMap (·.1) = ks := by rfl) (hdb : (x == ("__debug__" : Str)) = false := by decide)
    (hpl : ((backTo pos (starEach [] X.env)).any (·.1) || (backToKw pos (keywordEach kws X.env)).any (·.1.isNone)) = false := by rfl) :
    PD X (.Call (.Name x p) [] kws pos) (mCallK is n g m) := by
  refine ⟨fun pins s σ H Q I h => ?_⟩
  obtain ⟨ρ, σd, S, w, S', hs, hE, hmm, q⟩ := h
  obtain ⟨⟨ws, S1⟩, h1, h2⟩ := Option.bind_eq_some_iff.mp hmm
  have arg : tDA X.K m σ H (fun vs H1 => spD X.K n g (permL is vs) H1 Q E0) := ⟨ρ, σd, S, ws, S1, hs, hE, h1, fun ρ1 vs H1 e1 s1 r1 => spD_of s1 (r1.perm is) h2 fun ρ2 v H2 e2 s2 r2 => q ρ2 v H2 (e1.trans e2) s2 r2⟩
  refine wpAny_Call_Name_kw (ld_glob I hg hm ?_ hdb)
  refine PySem.W.callWith_KW0 (h₀ := X.base) I.ok.mod.kin hk hall (thn (ha.run pos pins s σ H _ I arg) fun us s1 ⟨vs, H1, I1, r, q1⟩ => ⟨I1.kIn, ?_⟩) hpl
  rw [hks]
  have rp := vals_perm r is
  have hl : (permL is us).length = ps.length := by rw [← rp.length]; exact F.len _ _ _ _ q1
  exact wp_of_code (run_G F hG hr I1 (hb s1 us hl) rp q1)
end

/-! the law -/
section
open PySem.W PySem.Calls
/-- the law's def is called with the script, behind the top -/
theorem law_G {P : Program} {w : World} {K : Frag} {mg mb : Str → Option Value} {k : Nat} {fa a : Addr} {fd : FuncData} {x : Str} {f : Fn} {s₁ : Shared} {vs : List Value} {ns : List Int}
    (KX : K.In s₁.heap) (hns : s₁.heap.Ns mainGlobals mg) (hb : s₁.heap.Ns builtinsNs mb) (hbb : ∀ x : Str, x ≠ "__name__" → mb x = bootBuiltins x) (hlim : s₁.heap.NoLimit) (hg : s₁.gens = #[])
    (ha : s₁.heap.get? a = some { cls := .type "list", data := .seq vs.toArray }) (hi : IntsAre vs ns) (hl : ns.length ≤ sizeLine) (hr : Room k callerA)
    (F : ∀ base : Heap, K.In base → base.Ns mainGlobals mg → FnG P w K mg base CX0 k fa fd [x] (spD K 1 f)) (hbind : ∀ (s : Shared) (u : Value), BindsTo s fd ⟨[u], []⟩ [(x, u)])
    (hf : ∃ S', f [.sc ns] [] = some (.d (.bool true), S')) :
    codeAny (model P w) callerA (.call (.ref fa) ⟨[.ref a], []⟩) (fun r s' => r = .ok (.ret (.bool true)) ∧ OldK s₁.heap s'.heap ∧ s'.os = s₁.os ∧ AllBare s'.gens) s₁ := by
  obtain ⟨S', hf⟩ := hf
  have rv := vals_ints hi
  -- nothing is tracked but the script, unless it is an object of the written part
  let o0 : Obj := { cls := .type "list", data := .seq vs.toArray }
  let H : Hp := fun b => if b = a ∧ K.lookup a = none then some (.frz o0 (.lst (ns.map V.int))) else none
  have Hat : ∀ b u, H b = some u → b = a ∧ K.lookup a = none ∧ u = .frz o0 (.lst (ns.map V.int)) := fun b u e => by
    by_cases c : b = a ∧ K.lookup a = none
    · have e' : some (HO.frz o0 (.lst (ns.map V.int))) = some u := (if_pos c).symm.trans e
      exact ⟨c.1, c.2, (Option.some.inj e').symm⟩
    · have e' : (none : Option HO) = some u := (if_neg c).symm.trans e
      cases e'
  have hok : HOk P w H s₁.heap := fun b u e => by
    obtain ⟨rfl, _, rfl⟩ := Hat b u e
    exact ⟨ha, by rw [List.length_map]; exact hl, vs, 0, rv, ha⟩
  have free : ∀ {b : Addr} {o : Obj}, s₁.heap.get? b = some o → (b = a → K.lookup a ≠ none ∨ o ≠ o0) → H b = none := fun {b o} e hn => by
    cases q : H b with
    | none => rfl
    | some u =>
      obtain ⟨rfl, hk, _⟩ := Hat b u q
      rcases hn rfl with z | z
      · exact absurd hk z
      · rw [ha] at e; exact absurd (Option.some.inj e).symm z
  have inb : ∀ {b : Addr} {o : Obj}, s₁.heap.get? b = some o → (b = a → K.lookup a ≠ none ∨ o ≠ o0) → (hidT s₁.heap H).get? b = some o := fun e hn => hidT_get e (free e hn)
  have nsB : ∀ {b : Addr} {m : Str → Option Value}, s₁.heap.Ns b m → (hidT s₁.heap H).Ns b m := fun {b m} ⟨o, es, ep, e, d, r⟩ => ⟨o, es, ep, inb e (fun _ => .inr fun z => by rw [z] at d; cases d), d, r⟩
  have KB : K.In (hidT s₁.heap H) := fun b o e => inb (KX b o e) fun z => .inl (by rw [← z, e]; exact fun q => nomatch q)
  have M : Mod K mg (hidT s₁.heap H) := ⟨KB, nsB hns, ⟨mb, nsB hb, hbb⟩, let ⟨mc, h1, h2⟩ := hlim; ⟨mc, nsB h1, h2⟩⟩
  have e0 : Env0 P w K mg (hidT s₁.heap H) callerA [] s₁ H := ⟨rfl, M, fun b o e => of_hidT e, Nat.le_of_eq (hidT_size _ _), trivial, fun b z => (nomatch z), hok, .of_eq hg⟩
  have hs : SRel ⟨[], []⟩ H [] := ⟨rfl, fun i a e => by simp at e, fun i j a e => by simp at e, fun i o e => by simp at e, fun a h => by cases h⟩
  have hrel : RelW K ⟨[], []⟩ H (.sc ns) (.ref a) := by
    refine ⟨a, rfl, ?_⟩
    cases hk : K.lookup a with
    | none => exact .inl ⟨o0, if_pos ⟨rfl, hk⟩, fun z => (nomatch z), fun z => (nomatch z)⟩
    | some o =>
      have e := KX a o hk
      rw [ha] at e
      cases e
      refine .inr ⟨_, vs.toArray, _, hk, rfl, rfl, rfl, ?_, by simpa using rv⟩
      rw [List.size_toArray, hi.length]; exact hl
  have hsp : spD K 1 f [.ref a] H (fun v _ => v = .bl true) E0 := ⟨⟨[], []⟩, [], [.sc ns], .d (.bool true), S', hs, .cons hrel .nil, rfl, hf, fun ρ' v H' _ _ r => by cases r; rfl⟩
  refine codeAny_mono ((F _ KB (nsB hns)).run callerA rfl hr [] s₁ H e0 ⟨[.ref a], []⟩ [.ref a] [.ref a] (hbind s₁ (.ref a)) (.cons rfl .nil) _ _ hsp) fun r s' h => ?_
  cases r with
  | error e => exact h.elim
  | ok fl =>
    cases fl with
    | next => exact h.elim
    | brk => exact h.elim
    | cont => exact h.elim
    | ret u =>
      obtain ⟨v, H', os, bare, un, hok', r', q⟩ := h
      obtain rfl : v = .bl true := q
      obtain rfl : u = Value.bool true := r'
      refine ⟨rfl, OldK.of_keep fun b o e => ?_, os, bare⟩
      cases q : H b with
      | none => exact un.keep b o e q (fun z => (nomatch z)) (fun z => (nomatch z))
      | some u =>
        obtain ⟨rfl, _, rfl⟩ := Hat b u q
        obtain ⟨e2, _⟩ := hok' b _ (un.frzs b o0 _ q)
        rw [ha] at e; cases e
        exact e2
theorem walk_G {l : OpenLaw} {n k : Nat} {q : Program} {loose : List Str} {XP : (Str → Option Value) → Heap → Prop} {YP : World → Heap → Prop} {d : DefRec} {x : Str}
    (hn : l.most = some n) (hn2 : n ≤ sizeLine) (hdf : d.params.defaults = []) (hr : Room k callerA)
    (F : ∀ (w : World) (mg : Str → Option Value) (fa : Addr) (h : Heap), YP w h → h.Ns mainGlobals mg → mg d.name = some (.ref fa) →
      ∃ (K : Frag) (fd : FuncData) (f : Fn), K.In h ∧ (∀ (s : Shared) (u : Value), BindsTo s fd ⟨[u], []⟩ [(x, u)]) ∧ (∀ ns : List Int, ns.length ≤ n → ∃ S', f [.sc ns] [] = some (.d (.bool true), S')) ∧
        ∀ base : Heap, K.In base → base.Ns mainGlobals mg → FnG l.prog w K mg base CX0 k fa fd [x] (spD K 1 f)) :
    WalkO q loose XP YP l.row.toRowW d [] (fun f vs => PySem.call f vs) := by
  refine Att.attach_call hn hdf fun w s₀ s₁ mg mb fa o pm cd doc a vs ns G Y ho hd hcd hmg hobj hints hlen hg => ?_
  obtain ⟨K, fd, f, KX, hb, hf, hF⟩ := F w mg fa _ Y G.T.g hmg
  exact law_G KX G.T.g G.T.b G.T.builtins G.T.nolimit hg hobj hints (Nat.le_trans hlen hn2) hr hF hb (hf ns hlen)
end
end DL

set_option Elab.async false
set_option linter.all false
set_option maxRecDepth 100000
set_option autoImplicit false
/-! The data layer, 6: operators, subscripts, slices, what is built in. -/
noncomputable section
namespace DL
open PySem PySem.Spec PyProof.Rows L2

section
variable {X : Cx}
/-! numbers -/
def vAdd : G2 := fun S x y => match x, y with
  | .d (.int i), .d (.int j) => some (.d (.int (i + j)))
  | .d (.str a), .d (.str b) => if fits (a.length + b.length) = true then some (.d (.str (a ++ b))) else none
  | .d (.tuple xs), .d (.tuple ys) => if fits (xs.length + ys.length) = true then some (.d (.tuple (xs ++ ys))) else none
  | .d (.list xs), .d (.list ys) => if fits (xs.length + ys.length) = true then some (.d (.list (xs ++ ys))) else none
  | _, _ => none
theorem rep_tup {ρ : Rho} {H : Hp} {ds : List D} {v : V} (r : Rep ρ H (.tuple ds) v) : ∃ a vs, v = .ref a ∧ H a = some (.tup vs) ∧ ρ.Fr a ∧ RepL ρ H ds vs := by
  cases r with
  | tup h1 h2 h3 => exact ⟨_, _, rfl, h1, h2, h3⟩
theorem rep_lst {ρ : Rho} {H : Hp} {ds : List D} {v : V} (r : Rep ρ H (.list ds) v) : ∃ a vs, v = .ref a ∧ H a = some (.lst vs) ∧ ρ.Fr a ∧ RepL ρ H ds vs := by
  cases r with
  | lst h1 h2 h3 => exact ⟨_, _, rfl, h1, h2, h3⟩
theorem o_add : OpD X (binaryOp .Add) vAdd := by
  rintro pins s σ H v u v' u' Q I r1 r2 ⟨ρ, S, x, y, w, hs, rx, ry, hg, q⟩
  unfold vAdd at hg
  split at hg
  · cases hg
    cases rx; cases ry
    exact op_add pins s σ H _ _ _ _ Q I r1 r2 ⟨_, _, rfl, rfl, q ρ _ H .refl hs (.int _)⟩
  · obtain ⟨hf, hg⟩ := some_if hg
    cases hg
    cases rx; cases ry
    exact op_add_str pins s σ H _ _ _ _ Q I r1 r2 ⟨_, _, rfl, rfl, fits_ok hf, q ρ _ H .refl hs (.str _)⟩
  · rename_i xs ys
    obtain ⟨hf, hg⟩ := some_if hg
    cases hg
    obtain ⟨a, vs, rfl, h1, h2, h3⟩ := rep_tup rx
    obtain ⟨b, us, rfl, g1, g2, g3⟩ := rep_tup ry
    refine op_catA pins s σ H _ _ _ _ Q I r1 r2 ⟨a, b, vs, us, rfl, rfl, SqT.of h1, SqT.of g1, by rw [← h3.length, ← g3.length]; exact fits_ok hf, fun e => ?_, fun e e' => ?_, fun e e' p hp => ?_⟩
    · subst e
      cases h3
      exact q ρ _ H .refl hs (.tup g1 g2 g3)
    · subst e'
      cases g3
      rw [List.append_nil] at q
      exact q ρ _ H .refl hs (.tup h1 h2 h3)
    · exact q ρ _ _ (Ext.new hp) (hs.new hp) (.tup upd_same (hs.fresh hp) ((h3.append g3).ext (Ext.new hp)))
  · rename_i xs ys
    obtain ⟨hf, hg⟩ := some_if hg
    cases hg
    obtain ⟨a, vs, rfl, h1, h2, h3⟩ := rep_lst rx
    obtain ⟨b, us, rfl, g1, g2, g3⟩ := rep_lst ry
    refine op_cat pins s σ H _ _ _ _ Q I r1 r2 ⟨a, b, vs, us, rfl, rfl, h1, g1, by rw [← h3.length, ← g3.length]; exact fits_ok hf, fun p hp => ?_⟩
    exact q ρ _ _ (Ext.new hp) (hs.new hp) (.lst upd_same (hs.fresh hp) ((h3.append g3).ext (Ext.new hp)))
  · cases hg
def vSub : G2 := fun S x y => match x, y with
  | .d (.int i), .d (.int j) => some (.d (.int (i - j)))
  | _, _ => none
theorem o_sub : OpD X (binaryOp .Sub) vSub := by
  rintro pins s σ H v u v' u' Q I r1 r2 ⟨ρ, S, x, y, w, hs, rx, ry, hg, q⟩
  unfold vSub at hg
  split at hg
  · cases hg
    cases rx; cases ry
    exact op_sub pins s σ H _ _ _ _ Q I r1 r2 ⟨_, _, rfl, rfl, q ρ _ H .refl hs (.int _)⟩
  · cases hg
/-- one of the factors small, or both of known size -/
def mulOk (i j : Int) : Bool := says (-(2 ^ 64) < i ∧ i < 2 ^ 64) || says (-(2 ^ 64) < j ∧ j < 2 ^ 64) || says (i.natAbs.log2 + j.natAbs.log2 < 1000000)
def vMul : G2 := fun S x y => match x, y with
  | .d (.int i), .d (.int j) => if mulOk i j = true then some (.d (.int (i * j))) else none
  | _, _ => none
theorem o_mul : OpD X (binaryOp .Mult) vMul := by
  rintro pins s σ H v u v' u' Q I r1 r2 ⟨ρ, S, x, y, w, hs, rx, ry, hg, q⟩
  unfold vMul at hg
  split at hg
  · obtain ⟨hf, hg⟩ := some_if hg
    cases hg
    cases rx; cases ry
    unfold mulOk at hf
    rw [Bool.or_eq_true, Bool.or_eq_true, says_iff, says_iff, says_iff] at hf
    rcases hf with hf | hf
    · exact op_mul pins s σ H _ _ _ _ Q I r1 r2 ⟨_, _, rfl, rfl, hf, q ρ _ H .refl hs (.int _)⟩
    · exact op_mulW pins s σ H _ _ _ _ Q I r1 r2 ⟨_, _, rfl, rfl, hf, q ρ _ H .refl hs (.int _)⟩
  · cases hg
def divOk (j : Int) : Bool := says (0 < j ∧ j < 2 ^ 64)
def vFdiv : G2 := fun S x y => match x, y with
  | .d (.int i), .d (.int j) => if divOk j = true then some (.d (.int (i / j))) else none
  | _, _ => none
theorem o_fdiv : OpD X (binaryOp .FloorDiv) vFdiv := by
  rintro pins s σ H v u v' u' Q I r1 r2 ⟨ρ, S, x, y, w, hs, rx, ry, hg, q⟩
  unfold vFdiv at hg
  split at hg
  · obtain ⟨hf, hg⟩ := some_if hg
    cases hg
    cases rx; cases ry
    have hf := says_of hf
    exact op_fdivW pins s σ H _ _ _ _ Q I r1 r2 ⟨_, _, rfl, rfl, wide_div (b := 64) hf.1 (by omega) (by decide) (by decide), q ρ _ H .refl hs (.int _)⟩
  · cases hg
def vMod : G2 := fun S x y => match x, y with
  | .d (.int i), .d (.int j) => if decide (0 < j) = true then some (.d (.int (i % j))) else none
  | _, _ => none
theorem o_mod : OpD X (binaryOp .Mod) vMod := by
  rintro pins s σ H v u v' u' Q I r1 r2 ⟨ρ, S, x, y, w, hs, rx, ry, hg, q⟩
  unfold vMod at hg
  split at hg
  · obtain ⟨hf, hg⟩ := some_if hg
    cases hg
    cases rx; cases ry
    exact op_mod pins s σ H _ _ _ _ Q I r1 r2 ⟨_, _, rfl, rfl, of_decide_eq_true hf, q ρ _ H .refl hs (.int _)⟩
  · cases hg
def powOk (i j : Int) : Bool := says (0 ≤ j) && (says (j ≤ 1000000 ∧ i.natAbs < 2 ^ 64) || says ((Builtin.Int.intBits i : Int) * j ≤ 134217728))
def vPow : G2 := fun S x y => match x, y with
  | .d (.int i), .d (.int j) => if powOk i j = true then some (.d (.int (i ^ j.toNat))) else none
  | _, _ => none
theorem o_pow : OpD X (binaryOp .Pow) vPow := by
  rintro pins s σ H v u v' u' Q I r1 r2 ⟨ρ, S, x, y, w, hs, rx, ry, hg, q⟩
  unfold vPow at hg
  split at hg
  · obtain ⟨hf, hg⟩ := some_if hg
    cases hg
    cases rx; cases ry
    unfold powOk at hf
    rw [Bool.and_eq_true, Bool.or_eq_true, says_iff, says_iff, says_iff] at hf
    obtain ⟨h0, hf⟩ := hf
    rcases hf with hf | hf
    · exact op_pow pins s σ H _ _ _ _ Q I r1 r2 ⟨_, _, rfl, rfl, ⟨h0, hf.1, hf.2⟩, q ρ _ H .refl hs (.int _)⟩
    · obtain ⟨t, rfl⟩ := r1
      obtain ⟨t', rfl⟩ := r2
      exact pow_int h0 (by omega) ⟨.int _, H, I.tok _, ⟨_, rfl⟩, q ρ _ H .refl hs (.int _)⟩
  · cases hg
def vInt2 (f : Int → Int → Int) : G2 := fun S x y => match x, y with
  | .d (.int i), .d (.int j) => some (.d (.int (f i j)))
  | _, _ => none
theorem o_xor : OpD X (binaryOp .BitXor) (vInt2 Builtin.bitXor) := by
  rintro pins s σ H v u v' u' Q I r1 r2 ⟨ρ, S, x, y, w, hs, rx, ry, hg, q⟩
  unfold vInt2 at hg
  split at hg
  · cases hg
    cases rx; cases ry
    exact op_xor pins s σ H _ _ _ _ Q I r1 r2 ⟨_, _, rfl, rfl, q ρ _ H .refl hs (.int _)⟩
  · cases hg
theorem o_and : OpD X (binaryOp .BitAnd) (vInt2 Builtin.bitAnd) := by
  rintro pins s σ H v u v' u' Q I r1 r2 ⟨ρ, S, x, y, w, hs, rx, ry, hg, q⟩
  unfold vInt2 at hg
  split at hg
  · cases hg
    cases rx; cases ry
    exact op_and pins s σ H _ _ _ _ Q I r1 r2 ⟨_, _, rfl, rfl, q ρ _ H .refl hs (.int _)⟩
  · cases hg
def vNeg : G1 := fun S x => match x with
  | .d (.int i) => some (.d (.int (-i)))
  | _ => none
theorem o_neg : UnD X (unaryOp .USub) vNeg := by
  rintro pins s σ H v v' Q I r1 ⟨ρ, S, x, w, hs, rx, hg, q⟩
  unfold vNeg at hg
  split at hg
  · cases hg
    cases rx
    exact un_neg pins s σ H _ _ Q I r1 ⟨_, rfl, q ρ _ H .refl hs (.int _)⟩
  · cases hg

/-! order of numbers -/
def vCmp (f : Int → Int → Bool) : G2 := fun S x y => match x, y with
  | .d (.int i), .d (.int j) => some (.d (.bool (f i j)))
  | _, _ => none
theorem cmp_of {op : CmpOp} {f : Int → Int → Bool} (ho : OpR X (compareOp op) (rI0 fun i j => .bl (f i j))) : OpD X (compareOp op) (vCmp f) := by
  rintro pins s σ H v u v' u' Q I r1 r2 ⟨ρ, S, x, y, w, hs, rx, ry, hg, q⟩
  unfold vCmp at hg
  split at hg
  · cases hg
    cases rx; cases ry
    exact ho pins s σ H _ _ _ _ Q I r1 r2 ⟨_, _, rfl, rfl, q ρ _ H .refl hs (.bl _)⟩
  · cases hg
abbrev vLt := vCmp fun i j => decide (i < j)
abbrev vLe := vCmp fun i j => decide (i ≤ j)
abbrev vGt := vCmp fun i j => decide (j < i)
abbrev vGe := vCmp fun i j => decide (j ≤ i)
theorem o_lt : OpD X (compareOp .Lt) vLt := cmp_of op_lt
theorem o_le : OpD X (compareOp .LtE) vLe := cmp_of op_le
theorem o_gt : OpD X (compareOp .Gt) vGt := cmp_of op_gt
theorem o_ge : OpD X (compareOp .GtE) vGe := cmp_of op_ge

/-! equality of data -/
def asD (S : Sto) : W → Option D
  | .d x => some x
  | .loc i => match S[i]? with
    | some (.lst xs) => some (.list xs)
    | _ => none
  | _ => none
mutual
theorem Rep.dp {K : PySem.W.Frag} {ρ : Rho} {H : Hp} : ∀ {d : D} {v : V}, Rep ρ H d v → Dp K H v d
  | _, _, .non => .non
  | _, _, .bl b => .bl b
  | _, _, .int i => .int i
  | _, _, .str x => .str x
  | _, _, .tup h _ r => .tup (SqT.of h) (RepL.dp r)
  | _, _, .lst h _ r => .lst (SqL.of h) (RepL.dp r)
theorem RepL.dp {K : PySem.W.Frag} {ρ : Rho} {H : Hp} : ∀ {ds : List D} {vs : List V}, RepL ρ H ds vs → DpAll K H vs ds
  | _, _, .nil => .nil
  | _, _, .cons r t => .cons (Rep.dp r) (RepL.dp t)
end
theorem asD_dp {K : PySem.W.Frag} {ρ : Rho} {H : Hp} {S : Sto} (hs : SRel ρ H S) {w : W} {v : V} {d : D} (r : RelW K ρ H w v) (h : asD S w = some d) : Dp K H v d := by
  cases w with
  | d x => cases h; exact Rep.dp r
  | loc i =>
    simp only [asD] at h
    split at h
    · rename_i xs e
      cases h
      obtain ⟨a, vs, rfl, _, h2, h3⟩ := hs.lst_at r e
      exact .lst (SqL.of h2) h3.dp
    · cases h
  | _ => cases h
def strs2 : W → W → Option (Str × Str)
  | .d (.str a), .d (.str b) => some (a, b)
  | _, _ => none
theorem strs2_rel {K : PySem.W.Frag} {ρ : Rho} {H : Hp} {x y : W} {v u : V} {a b : Str} (h : strs2 x y = some (a, b)) (rx : RelW K ρ H x v) (ry : RelW K ρ H y u) : v = .str a ∧ u = .str b := by
  unfold strs2 at h
  split at h
  · cases h; cases rx; cases ry; exact ⟨rfl, rfl⟩
  · cases h
def vEq : G2 := fun S x y => match strs2 x y with
  | some (a, b) => some (.d (.bool (a == b)))
  | none => (asD S x).bind fun a => (asD S y).bind fun b => if (SeqAt.shaped a && SeqAt.shaped b) = true then some (.d (.bool (PyData.eqv a b))) else none
def vNe : G2 := fun S x y => match strs2 x y with
  | some (a, b) => some (.d (.bool (!(a == b))))
  | none => (asD S x).bind fun a => (asD S y).bind fun b => if (SeqAt.shaped a && SeqAt.shaped b) = true then some (.d (.bool (!PyData.eqv a b))) else none
theorem o_eq (hu : X.A.units + 64 < cLine) : OpD X (compareOp .Eq) vEq := by
  rintro pins s σ H v u v' u' Q I r1 r2 ⟨ρ, S, x, y, w, hs, rx, ry, hg, q⟩
  unfold vEq at hg
  split at hg
  · rename_i a b h
    cases hg
    obtain ⟨rfl, rfl⟩ := strs2_rel h rx ry
    refine L2.op_eq pins s σ H _ _ _ _ Q I r1 r2 ⟨rfl, ?_⟩
    rw [dec_str]
    exact q ρ _ H .refl hs (.bl _)
  · obtain ⟨a, ha, hg⟩ := Option.bind_eq_some_iff.mp hg
    obtain ⟨b, hb, hg⟩ := Option.bind_eq_some_iff.mp hg
    obtain ⟨hf, hg⟩ := some_if hg
    cases hg
    rw [Bool.and_eq_true] at hf
    exact op_eqD hu pins s σ H _ _ _ _ Q I r1 r2 ⟨a, b, asD_dp hs rx ha, asD_dp hs ry hb, hf.1, hf.2, q ρ _ H .refl hs (.bl _)⟩
theorem o_ne (hu : X.A.units + 64 < cLine) : OpD X (compareOp .NotEq) vNe := by
  rintro pins s σ H v u v' u' Q I r1 r2 ⟨ρ, S, x, y, w, hs, rx, ry, hg, q⟩
  unfold vNe at hg
  split at hg
  · rename_i a b h
    cases hg
    obtain ⟨rfl, rfl⟩ := strs2_rel h rx ry
    refine L2.op_ne pins s σ H _ _ _ _ Q I r1 r2 ⟨rfl, ?_⟩
    rw [dec_str]
    exact q ρ _ H .refl hs (.bl _)
  · obtain ⟨a, ha, hg⟩ := Option.bind_eq_some_iff.mp hg
    obtain ⟨b, hb, hg⟩ := Option.bind_eq_some_iff.mp hg
    obtain ⟨hf, hg⟩ := some_if hg
    cases hg
    rw [Bool.and_eq_true] at hf
    exact op_neD hu pins s σ H _ _ _ _ Q I r1 r2 ⟨a, b, asD_dp hs rx ha, asD_dp hs ry hb, hf.1, hf.2, q ρ _ H .refl hs (.bl _)⟩
/-- is None, is True: the right side a constant -/
def isNone : W → Bool
  | .d .none => true
  | _ => false
def vIsN : G2 := fun S x y => match x, y with
  | .d a, .d .none => some (.d (.bool (isNone (.d a))))
  | .loc i, .d .none => if (S[i]?.bind fun o => match o with | .dead => none | _ => some ()).isSome = true then some (.d (.bool false)) else none
  | .ct _, .d .none => some (.d (.bool false))
  | _, _ => none
def vIsNN : G2 := fun S x y => match x, y with
  | .d a, .d .none => some (.d (.bool (!isNone (.d a))))
  | .loc i, .d .none => if (S[i]?.bind fun o => match o with | .dead => none | _ => some ()).isSome = true then some (.d (.bool true)) else none
  | .ct _, .d .none => some (.d (.bool true))
  | _, _ => none
theorem isNone_rel {ρ : Rho} {H : Hp} {a : D} {v : V} (r : Rep ρ H a v) : decide (v = .non) = isNone (.d a) := by cases r <;> rfl
theorem live_ref {K : PySem.W.Frag} {ρ : Rho} {H : Hp} {S : Sto} (hs : SRel ρ H S) {i : Nat} {v : V} (r : RelW K ρ H (.loc i) v) (h : (S[i]?.bind fun o => match o with | .dead => none | _ => some ()).isSome = true) : ∃ a, v = .ref a := by
  cases e : S[i]? with
  | none => rw [e] at h; cases h
  | some o =>
    have ho : o ≠ .dead := by rintro rfl; rw [e] at h; cases h
    obtain ⟨a, q⟩ := hs.live i o e ho
    exact ⟨a, r.2 a q⟩
theorem o_isN : OpD X (compareOp .Is) vIsN := by
  rintro pins s σ H v u v' u' Q I r1 r2 ⟨ρ, S, x, y, w, hs, rx, ry, hg, q⟩
  unfold vIsN at hg
  split at hg
  · cases hg
    cases ry
    exact L2.op_isN pins s σ H _ _ _ _ Q I r1 r2 ⟨rfl, by rw [isNone_rel rx]; exact q ρ _ H .refl hs (.bl _)⟩
  · obtain ⟨hf, hg⟩ := some_if hg
    cases hg
    cases ry
    obtain ⟨a, rfl⟩ := live_ref hs rx hf
    exact L2.op_isN pins s σ H _ _ _ _ Q I r1 r2 ⟨rfl, q ρ _ H .refl hs (.bl _)⟩
  · cases hg
    cases ry
    obtain ⟨a, vs, rfl, _⟩ := rx
    exact L2.op_isN pins s σ H _ _ _ _ Q I r1 r2 ⟨rfl, q ρ _ H .refl hs (.bl _)⟩
  · cases hg
theorem o_isNN : OpD X (compareOp .IsNot) vIsNN := by
  rintro pins s σ H v u v' u' Q I r1 r2 ⟨ρ, S, x, y, w, hs, rx, ry, hg, q⟩
  unfold vIsNN at hg
  split at hg
  · cases hg
    cases ry
    exact L2.op_notN pins s σ H _ _ _ _ Q I r1 r2 ⟨rfl, by rw [isNone_rel rx]; exact q ρ _ H .refl hs (.bl _)⟩
  · obtain ⟨hf, hg⟩ := some_if hg
    cases hg
    cases ry
    obtain ⟨a, rfl⟩ := live_ref hs rx hf
    exact L2.op_notN pins s σ H _ _ _ _ Q I r1 r2 ⟨rfl, q ρ _ H .refl hs (.bl _)⟩
  · cases hg
    cases ry
    obtain ⟨a, vs, rfl, _⟩ := rx
    exact L2.op_notN pins s σ H _ _ _ _ Q I r1 r2 ⟨rfl, q ρ _ H .refl hs (.bl _)⟩
  · cases hg
def vIsB : G2 := fun S x y => match x, y with
  | .d (.bool a), .d (.bool b) => some (.d (.bool (decide (a = b))))
  | _, _ => none
def vIsNB : G2 := fun S x y => match x, y with
  | .d (.bool a), .d (.bool b) => some (.d (.bool (!decide (a = b))))
  | _, _ => none
theorem o_isB : OpD X (compareOp .Is) vIsB := by
  rintro pins s σ H v u v' u' Q I r1 r2 ⟨ρ, S, x, y, w, hs, rx, ry, hg, q⟩
  unfold vIsB at hg
  split at hg
  · cases hg
    cases rx; cases ry
    exact op_isBl pins s σ H _ _ _ _ Q I r1 r2 ⟨_, _, rfl, rfl, q ρ _ H .refl hs (.bl _)⟩
  · cases hg
theorem o_isNB : OpD X (compareOp .IsNot) vIsNB := by
  rintro pins s σ H v u v' u' Q I r1 r2 ⟨ρ, S, x, y, w, hs, rx, ry, hg, q⟩
  unfold vIsNB at hg
  split at hg
  · cases hg
    cases rx; cases ry
    exact op_notBl pins s σ H _ _ _ _ Q I r1 r2 ⟨_, _, rfl, rfl, q ρ _ H .refl hs (.bl _)⟩
  · cases hg

/-! dicts -/
def keyD : D → Option Key
  | .int i => some (.inl i)
  | .str x => some (.inr x)
  | _ => none
def keysD : List D → Option (List Key)
  | [] => some []
  | d :: ds => (keyD d).bind fun k => (keysD ds).map fun ks => k :: ks
def keyT : D → Option (List Key)
  | .tuple ds => keysD ds
  | _ => none
theorem keyD_rel {ρ : Rho} {H : Hp} {d : D} {v : V} {k : Key} (r : Rep ρ H d v) (h : keyD d = some k) : v = kV k := by
  cases r <;> cases h <;> rfl
theorem keysD_rel {ρ : Rho} {H : Hp} : ∀ {ds : List D} {vs : List V} {ks : List Key}, RepL ρ H ds vs → keysD ds = some ks → vs = ks.map kV
  | [], _, _, r, h => by cases r; cases h; rfl
  | d :: ds, _, _, r, h => by
    cases r with
    | cons r1 r2 =>
      obtain ⟨k, h1, h2⟩ := Option.bind_eq_some_iff.mp h
      rw [Option.map_eq_some_iff] at h2
      obtain ⟨ks, h3, h4⟩ := h2
      cases h4
      rw [keyD_rel r1 h1, keysD_rel r2 h3]
      rfl
theorem keyT_rel {ρ : Rho} {H : Hp} {d : D} {v : V} {ks : List Key} (r : Rep ρ H d v) (h : keyT d = some ks) : ∃ b, v = .ref b ∧ H b = some (.tup (ks.map kV)) := by
  cases r with
  | tup h1 _ h3 => exact ⟨_, rfl, by rw [h1, keysD_rel h3 h]⟩
  | _ => cases h
section
variable {κ : Type} [DecidableEq κ]
def valD (kvs : List (κ × D)) (k : κ) : Option D := (kvs.find? fun kv => decide (kv.1 = k)).map (·.2)
def putD (kvs : List (κ × D)) (k : κ) (d : D) : List (κ × D) := if (valD kvs k).isSome then kvs.map fun kv => if kv.1 = k then (kv.1, d) else kv else kvs ++ [(k, d)]
theorem RepKV.val {ρ : Rho} {H : Hp} {kvs : List (κ × D)} {us : List (κ × V)} (r : RepKV ρ H kvs us) (k : κ) : (valD kvs k = none ∧ valV us k = none) ∨ ∃ d v, valD kvs k = some d ∧ valV us k = some v ∧ Rep ρ H d v := by
  induction r with
  | nil => exact .inl ⟨rfl, rfl⟩
  | @cons k' d v r s h _ ih =>
    by_cases e : k' = k
    · refine .inr ⟨d, v, ?_, ?_, h⟩
      · simp [valD, List.find?_cons, e]
      · exact valV_pos e
    · have h1 : valD ((k', d) :: r) k = valD r k := by simp [valD, List.find?_cons, e]
      rw [h1, valV_neg (by exact e)]
      exact ih
theorem RepKV.length {ρ : Rho} {H : Hp} {kvs : List (κ × D)} {us : List (κ × V)} (r : RepKV ρ H kvs us) : kvs.length = us.length := by
  induction r with
  | nil => rfl
  | cons _ _ ih => simp [ih]
theorem RepKV.put {ρ : Rho} {H : Hp} {kvs : List (κ × D)} {us : List (κ × V)} (r : RepKV ρ H kvs us) (k : κ) {d : D} {v : V} (rv : Rep ρ H d v) : RepKV ρ H (putD kvs k d) (putK us k v) := by
  have hmap : RepKV ρ H (kvs.map fun kv => if kv.1 = k then (kv.1, d) else kv) (us.map fun kv => if kv.1 = k then (kv.1, v) else kv) := by
    induction r with
    | nil => exact .nil
    | @cons k' d' v' r s h _ ih =>
      simp only [List.map_cons]
      by_cases e : k' = k
      · rw [if_pos e, if_pos e]; exact .cons rv ih
      · rw [if_neg e, if_neg e]; exact .cons h ih
  have happ : RepKV ρ H (kvs ++ [(k, d)]) (us ++ [(k, v)]) := by
    clear hmap
    induction r with
    | nil => exact .cons rv .nil
    | cons h _ ih => exact .cons h ih
  rcases r.val k with ⟨h1, h2⟩ | ⟨d', v', h1, h2, _⟩
  · rw [putK_new v h2]
    unfold putD
    rw [h1]
    exact happ
  · have e2 : putK us k v = us.map fun kv => if kv.1 = k then (kv.1, v) else kv := by
      unfold putK
      rw [valV_any, h2]
      rfl
    rw [e2]
    unfold putD
    rw [h1]
    exact hmap
end
theorem dict_at {K : PySem.W.Frag} {ρ : Rho} {H : Hp} {S : Sto} (hs : SRel ρ H S) {i : Nat} {v : V} {o : O} (r : RelW K ρ H (.loc i) v) (h : S[i]? = some o) (ho : o ≠ .dead) : ∃ a, v = .ref a ∧ ρ.l[i]? = some (some a) ∧ ORel ρ H a o := by
  obtain ⟨a, q⟩ := hs.live i o h ho
  obtain ⟨o', h1, h2⟩ := hs.obj i a q
  rw [h] at h1; cases h1
  exact ⟨a, r.2 a q, q, h2⟩
/-- what a dict holds at a key -/
def lookD (S : Sto) : W → W → Option (Option D)
  | .loc i, .d k => match S[i]? with
    | some (.dK kvs) => (keyD k).map fun k => valD kvs k
    | some (.dT kvs) => (keyT k).map fun k => valD kvs k
    | _ => none
  | .kd _ kvs, .d k => (keyD k).map fun k => valD kvs k
  | .td _ kvs, .d k => (keyT k).map fun k => valD kvs k
  | _, _ => none
theorem lookD_rel {K : PySem.W.Frag} {ρ : Rho} {H : Hp} {S : Sto} (hs : SRel ρ H S) {x y : W} {v u : V} {o : Option D} (rx : RelW K ρ H x v) (ry : RelW K ρ H y u) (h : lookD S x y = some o) :
    ∃ a ov, v = .ref a ∧ DGet H a u ov ∧ ((o = none ∧ ov = none) ∨ ∃ d w, o = some d ∧ ov = some w ∧ Rep ρ H d w) := by
  unfold lookD at h
  split at h
  · rename_i i k
    split at h
    · rename_i kvs e
      rw [Option.map_eq_some_iff] at h
      obtain ⟨k', h1, rfl⟩ := h
      obtain ⟨a, rfl, _, us, h2, h3⟩ := dict_at hs rx e (by intro z; cases z)
      have := keyD_rel ry h1
      subst this
      exact ⟨a, _, rfl, DGet.k h2, h3.val k'⟩
    · rename_i kvs e
      rw [Option.map_eq_some_iff] at h
      obtain ⟨k', h1, rfl⟩ := h
      obtain ⟨a, rfl, _, us, h2, h3⟩ := dict_at hs rx e (by intro z; cases z)
      obtain ⟨b, rfl, hb⟩ := keyT_rel ry h1
      exact ⟨a, _, rfl, DGet.t h2 hb, h3.val k'⟩
    · cases h
  · rename_i b kvs k
    rw [Option.map_eq_some_iff] at h
    obtain ⟨k', h1, rfl⟩ := h
    obtain ⟨a, us, rfl, _, h2, _, h3⟩ := rx
    have := keyD_rel ry h1
    subst this
    exact ⟨a, _, rfl, .inl ⟨us, k', h2, rfl, rfl⟩, h3.val k'⟩
  · rename_i b kvs k
    rw [Option.map_eq_some_iff] at h
    obtain ⟨k', h1, rfl⟩ := h
    obtain ⟨a, us, rfl, _, h2, _, h3⟩ := rx
    obtain ⟨b, rfl, hb⟩ := keyT_rel ry h1
    exact ⟨a, _, rfl, .inr ⟨us, k', b, h2, rfl, hb, rfl⟩, h3.val k'⟩
  · cases h
def vDGet : G2 := fun S x y => (lookD S x y).bind fun o => o.map W.d
theorem d_dget {o i : Expr} {pos : Pos} {mo mi : ME} (hu : X.A.units + 1 < cLine) (ho : PD X o mo) (hi : PD X i mi) (hs : NoSl i) : PD X (.Subscript o i pos) (mBin vDGet mo mi) :=
  peImp (pe_dget hu ho hi hs) fun σ H Q h => by
    obtain ⟨ρ, σd, S, w, S', hs, he, hm, q⟩ := h
    obtain ⟨⟨w1, S1⟩, h1, hm⟩ := Option.bind_eq_some_iff.mp hm
    obtain ⟨⟨w2, S2⟩, h2, hm⟩ := Option.bind_eq_some_iff.mp hm
    rw [Option.map_eq_some_iff] at hm
    obtain ⟨w', h3, h4⟩ := hm
    cases h4
    obtain ⟨od, h5, h6⟩ := Option.bind_eq_some_iff.mp h3
    rw [Option.map_eq_some_iff] at h6
    obtain ⟨d, rfl, rfl⟩ := h6
    refine ⟨ρ, σd, S, w1, S1, hs, he, h1, fun ρ1 v1 H1 e1 s1 r1 => ⟨ρ1, σd, S1, w2, S2, s1, he.ext e1, h2, fun ρ2 v2 H2 e2 s2 r2 => ?_⟩⟩
    obtain ⟨a, ov, rfl, g, hh⟩ := lookD_rel s2 (r1.ext e2) r2 h5
    rcases hh with ⟨z, _⟩ | ⟨d', v', e3, rfl, rv⟩
    · cases z
    · cases e3
      exact ⟨a, v', rfl, g, q ρ2 v' H2 (e1.trans e2) s2 rv⟩
/-- membership -/
def flatD : D → Bool
  | .none => true
  | .bool _ => true
  | .int _ => true
  | .str _ => true
  | _ => false
def hasD (d : D) (ds : List D) : Bool := ds.any fun z => PyData.eqv z d
def memOk (d : D) (ds : List D) : Bool := flatD d && ds.all flatD
def vHas (S : Sto) (x y : W) : Option Bool := match lookD S y x with
  | some o => some o.isSome
  | none => (asD S x).bind fun d => match asT y with
    | some ds => if memOk d ds = true then some (hasD d ds) else none
    | none => (asL S y).bind fun ds => if memOk d ds = true then some (hasD d ds) else match y with
      | .d _ => if (SeqAt.shaped d && SeqAt.shaped (.list ds)) = true then some (hasD d ds) else none
      | .loc _ => if (SeqAt.shaped d && SeqAt.shaped (.list ds)) = true then some (hasD d ds) else none
      | _ => none
def vIn : G2 := fun S x y => (vHas S x y).map fun b => .d (.bool b)
def vNotIn : G2 := fun S x y => (vHas S x y).map fun b => .d (.bool (!b))
theorem flat_rel {ρ : Rho} {H : Hp} {d : D} {v : V} (r : Rep ρ H d v) (h : flatD d = true) : flatV v = true := by cases r <;> first | rfl | cases h
theorem flatL_rel {ρ : Rho} {H : Hp} : ∀ {ds : List D} {vs : List V}, RepL ρ H ds vs → ds.all flatD = true → vs.all flatV = true
  | _, _, .nil, _ => rfl
  | _, _, .cons r t, h => by
    rw [List.all_cons, Bool.and_eq_true] at h ⊢
    exact ⟨flat_rel r h.1, flatL_rel t h.2⟩
theorem eqV_rel {ρ : Rho} {H : Hp} {d e : D} {v u : V} (r : Rep ρ H d v) (r' : Rep ρ H e u) (h : flatD d = true) (h' : flatD e = true) : eqV v u = PyData.eqv d e := by
  cases r <;> first
    | (cases h; done)
    | (cases r' <;> first
      | (cases h'; done)
      | (simp [eqV, PyData.eqv]; done)
      | rfl)
theorem inV_rel {ρ : Rho} {H : Hp} {d : D} {v : V} (r : Rep ρ H d v) (h : flatD d = true) : ∀ {ds : List D} {vs : List V}, RepL ρ H ds vs → ds.all flatD = true → inV v vs = hasD d ds
  | _, _, .nil, _ => rfl
  | _, _, .cons r1 t, hh => by
    rw [List.all_cons, Bool.and_eq_true] at hh
    have ih := inV_rel r h t hh.2
    unfold inV hasD at ih ⊢
    rw [List.any_cons, List.any_cons, eqV_rel r1 r hh.1 h, ih]
theorem vHas_cases {K : PySem.W.Frag} {ρ : Rho} {H : Hp} {S : Sto} (hs : SRel ρ H S) {x y : W} {v u : V} {b : Bool} (rx : RelW K ρ H x v) (ry : RelW K ρ H y u) (h : vHas S x y = some b) :
    (∃ a ov, u = .ref a ∧ DGet H a v ov ∧ b = ov.isSome) ∨ (∃ p xs, u = .ref p ∧ (SqL K H p xs ∨ SqT K H p xs) ∧ flatV v = true ∧ xs.all flatV = true ∧ b = inV v xs) ∨
      ∃ d ds, Dp K H v d ∧ Dp K H u (.list ds) ∧ SeqAt.shaped d = true ∧ SeqAt.shaped (.list ds) = true ∧ b = (ds.any fun z => PyData.eqv z d) := by
  unfold vHas at h
  split at h
  · rename_i o ho
    cases h
    obtain ⟨a, ov, rfl, g, hh⟩ := lookD_rel hs ry rx ho
    refine .inl ⟨a, ov, rfl, g, ?_⟩
    rcases hh with ⟨rfl, rfl⟩ | ⟨d, w, rfl, rfl, _⟩ <;> rfl
  · obtain ⟨d, hd, h⟩ := Option.bind_eq_some_iff.mp h
    have flat : ∀ {ds : List D} {p : Addr} {xs : List V}, (SqL K H p xs ∨ SqT K H p xs) → RepL ρ H ds xs → memOk d ds = true → flatV v = true ∧ xs.all flatV = true ∧ hasD d ds = inV v xs := fun {ds p xs} _ r hm => by
      unfold memOk at hm
      rw [Bool.and_eq_true] at hm
      have rd : Rep ρ H d v := by
        cases x with
        | d z => cases hd; exact rx
        | loc i =>
          simp only [asD] at hd
          split at hd
          · cases hd; cases hm.1
          · cases hd
        | _ => cases hd
      exact ⟨flat_rel rd hm.1, flatL_rel r hm.2, (inV_rel rd hm.1 r hm.2).symm⟩
    split at h
    · rename_i ds hT
      obtain ⟨hm, h⟩ := some_if h
      cases h
      obtain ⟨p, xs, rfl, hq, hr⟩ := asT_rel ry hT
      obtain ⟨f1, f2, f3⟩ := flat (.inr hq) hr hm
      exact .inr (.inl ⟨p, xs, rfl, .inr hq, f1, f2, f3⟩)
    · obtain ⟨ds, hL, h⟩ := Option.bind_eq_some_iff.mp h
      split at h
      · rename_i hm
        cases h
        obtain ⟨p, xs, rfl, hq, hr⟩ := asL_rel hs ry hL
        obtain ⟨f1, f2, f3⟩ := flat (.inl hq) hr hm
        exact .inr (.inl ⟨p, xs, rfl, .inl hq, f1, f2, f3⟩)
      · cases y with
        | d z =>
          obtain ⟨hm, h⟩ := some_if h
          cases h
          rw [Bool.and_eq_true] at hm
          refine .inr (.inr ⟨d, ds, asD_dp hs rx hd, ?_, hm.1, hm.2, rfl⟩)
          cases z with
          | list xs => cases hL; exact Rep.dp ry
          | _ => cases hL
        | loc i =>
          obtain ⟨hm, h⟩ := some_if h
          cases h
          rw [Bool.and_eq_true] at hm
          refine .inr (.inr ⟨d, ds, asD_dp hs rx hd, asD_dp (w := .loc i) hs ry ?_, hm.1, hm.2, rfl⟩)
          simp only [asL] at hL
          simp only [asD]
          split at hL
          · rename_i xs e
            cases hL
            first | rw [e] | rfl
          · cases hL
        | _ => cases h
theorem o_in (hu : X.A.units + 65 < cLine) : OpD X (compareOp .In) vIn := by
  rintro pins s σ H v u v' u' Q I r1 r2 ⟨ρ, S, x, y, w, hs, rx, ry, hg, q⟩
  unfold vIn at hg
  rw [Option.map_eq_some_iff] at hg
  obtain ⟨b, hb, rfl⟩ := hg
  have qq := q ρ (.bl b) H .refl hs (.bl _)
  rcases vHas_cases hs rx ry hb with ⟨a, ov, rfl, g, rfl⟩ | ⟨p, xs, rfl, hq, f1, f2, rfl⟩ | ⟨d, ds, h1, h2, h3, h4, rfl⟩
  · obtain rfl : u' = Value.ref a := r2
    exact d_in (by omega) I g r1 fun s2 I2 => ⟨.bl ov.isSome, H, I2, rfl, qq⟩
  · exact op_in_seq pins s σ H _ _ _ _ Q I r1 r2 ⟨p, xs, rfl, hq, f1, f2, qq⟩
  · exact op_inD hu pins s σ H _ _ _ _ Q I r1 r2 ⟨d, ds, h1, h2, h3, h4, qq⟩
theorem o_notIn (hu : X.A.units + 65 < cLine) : OpD X (compareOp .NotIn) vNotIn := by
  rintro pins s σ H v u v' u' Q I r1 r2 ⟨ρ, S, x, y, w, hs, rx, ry, hg, q⟩
  unfold vNotIn at hg
  rw [Option.map_eq_some_iff] at hg
  obtain ⟨b, hb, rfl⟩ := hg
  have qq := q ρ (.bl (!b)) H .refl hs (.bl _)
  rcases vHas_cases hs rx ry hb with ⟨a, ov, rfl, g, rfl⟩ | ⟨p, xs, rfl, hq, f1, f2, rfl⟩ | ⟨d, ds, h1, h2, h3, h4, rfl⟩
  · obtain rfl : u' = Value.ref a := r2
    exact d_notIn (by omega) I g r1 fun s2 I2 => ⟨.bl (!ov.isSome), H, I2, rfl, qq⟩
  · exact op_notIn_seq pins s σ H _ _ _ _ Q I r1 r2 ⟨p, xs, rfl, hq, f1, f2, qq⟩
  · exact op_notInD hu pins s σ H _ _ _ _ Q I r1 r2 ⟨d, ds, h1, h2, h3, h4, qq⟩
/-- o[i] = v, a list's or a dict's -/
def vSetI : GS := fun S o i v => match o, i, v with
  | .loc n, .d i, .d v => match S[n]? with
    | some (.lst xs) => match i with
      | .int k => (ixN xs.length k).map fun j => S.set n (.lst (xs.set j v))
      | _ => none
    | some (.dK kvs) => (keyD i).bind fun k => if fits (kvs.length + 1) = true then some (S.set n (.dK (putD kvs k v))) else none
    | some (.dT kvs) => (keyT i).bind fun k => if fits (kvs.length + 1) = true then some (S.set n (.dT (putD kvs k v))) else none
    | _ => none
  | _, _, _ => none
theorem RepL.upd {ρ : Rho} {H : Hp} {a : Addr} {o : HO} {ds : List D} {vs : List V} (h : some a ∈ ρ.l) (r : RepL ρ H ds vs) : RepL ρ (L2.upd H a o) ds vs := r.ext (Ext.write h)
theorem s_setI (hu : X.A.units + 1 < cLine) : SetD X vSetI := by
  rintro pins s σ H o i v ov iv uv Q I ro ri rv ⟨ρ, S, x, y, z, S', hs, rx, ry, rz, hg, q⟩
  unfold vSetI at hg
  split at hg
  · rename_i n i' v'
    split at hg
    · rename_i xs e
      split at hg
      · rename_i k
        rw [Option.map_eq_some_iff] at hg
        obtain ⟨j, hj, rfl⟩ := hg
        obtain ⟨a, vs, rfl, hl, h2, h3⟩ := hs.lst_at rx e
        cases ry
        have hm := List.mem_of_getElem? hl
        refine set_list pins s σ H _ _ _ _ _ _ Q I ro ri rv ⟨a, vs, k, j, rfl, rfl, h2, by rw [← h3.length]; exact hj, ?_⟩
        exact q ρ _ (Ext.write hm) (hs.write hl ⟨_, upd_same, (h3.set j rz).ext (Ext.write hm)⟩)
      · cases hg
    · rename_i kvs e
      obtain ⟨k, hk, hg⟩ := Option.bind_eq_some_iff.mp hg
      obtain ⟨hf, hg⟩ := some_if hg
      cases hg
      obtain ⟨a, rfl, hl, us, h2, h3⟩ := dict_at hs rx e (by intro z; cases z)
      obtain rfl : ov = Value.ref a := ro
      have := keyD_rel ry hk
      subst this
      have hm := List.mem_of_getElem? hl
      refine d_setItem hu I (DPut.k (v := v) h2 (by rw [← h3.length]; exact fits_lt hf)) ri rv fun s2 I2 => ⟨_, I2, q ρ _ (Ext.write hm) (hs.write hl ⟨_, upd_same, (h3.put k rz).ext (Ext.write hm)⟩)⟩
    · rename_i kvs e
      obtain ⟨k, hk, hg⟩ := Option.bind_eq_some_iff.mp hg
      obtain ⟨hf, hg⟩ := some_if hg
      cases hg
      obtain ⟨a, rfl, hl, us, h2, h3⟩ := dict_at hs rx e (by intro z; cases z)
      obtain rfl : ov = Value.ref a := ro
      obtain ⟨b, rfl, hb⟩ := keyT_rel ry hk
      have hm := List.mem_of_getElem? hl
      refine d_setItem hu I (DPut.t (v := v) h2 hb (by rw [← h3.length]; exact fits_lt hf)) ri rv fun s2 I2 => ⟨_, I2, q ρ _ (Ext.write hm) (hs.write hl ⟨_, upd_same, (h3.put k rz).ext (Ext.write hm)⟩)⟩
    · cases hg
  · cases hg

/-! subscripts, slices -/
def vIx : G2 := fun S x y => match y with
  | .d (.int i) => match asT x with
    | some ds => (atI ds i).map W.d
    | none => match asL S x with
      | some ds => (atI ds i).map W.d
      | none => match x with
        | .d (.str z) => if fits z.length = true then (atI z.cps.toList i).map fun c => .d (.str ⟨#[c]⟩) else none
        | _ => none
  | _ => none
theorem atI_rel {ρ : Rho} {H : Hp} {ds : List D} {vs : List V} {i : Int} {d : D} (r : RepL ρ H ds vs) (h : atI ds i = some d) : ∃ v, atI vs i = some v ∧ Rep ρ H d v := by
  unfold atI at h ⊢
  rw [← r.length]
  obtain ⟨j, h1, h2⟩ := Option.bind_eq_some_iff.mp h
  obtain ⟨v, h3, h4⟩ := r.get h2
  exact ⟨v, by rw [h1]; exact h3, h4⟩
theorem i_ix : IxD X vIx := by
  rintro value slice pins s σ H v u v' u' Q I r1 r2 ⟨ρ, S, x, y, w, hs, rx, ry, hg, q⟩ hsub
  unfold vIx at hg
  split at hg
  · rename_i i
    cases ry
    split at hg
    · rename_i ds hT
      rw [Option.map_eq_some_iff] at hg
      obtain ⟨d, hd, rfl⟩ := hg
      obtain ⟨a, vs, rfl, hq, hr⟩ := asT_rel rx hT
      obtain ⟨z, h1, h2⟩ := atI_rel hr hd
      exact ix_tup value slice pins s σ H _ _ _ _ Q I r1 r2 ⟨a, vs, i, z, rfl, rfl, hq, h1, q ρ z H .refl hs h2⟩ hsub
    · split at hg
      · rename_i ds hL
        rw [Option.map_eq_some_iff] at hg
        obtain ⟨d, hd, rfl⟩ := hg
        obtain ⟨a, vs, rfl, hq, hr⟩ := asL_rel hs rx hL
        obtain ⟨z, h1, h2⟩ := atI_rel hr hd
        exact ix_list value slice pins s σ H _ _ _ _ Q I r1 r2 ⟨a, vs, i, z, rfl, rfl, hq, h1, q ρ z H .refl hs h2⟩ hsub
      · split at hg
        · obtain ⟨hf, hg⟩ : fits _ = true ∧ _ := by
            split at hg
            · rename_i hf; exact ⟨hf, hg⟩
            · cases hg
          rw [Option.map_eq_some_iff] at hg
          obtain ⟨c, hc, rfl⟩ := hg
          cases rx
          exact ix_str value slice pins s σ H _ _ _ _ Q I r1 r2 ⟨_, i, c, rfl, rfl, fits_ok hf, hc, q ρ _ H .refl hs (.str _)⟩ hsub
        · cases hg
  · cases hg
/-- a part of a slice -/
abbrev MP := Env → Sto → Option (Option Int × Sto)
def tDP (K : PySem.W.Frag) (m : MP) : TO := fun σ H Q => ∃ ρ σd S o S', SRel ρ H S ∧ RelE K ρ H σd σ ∧ m σd S = some (o, S') ∧ ∀ ρ' H', Ext ρ H ρ' H' → SRel ρ' H' S' → Q o H'
abbrev PDP (X : Cx) (e : Option Expr) (m : MP) : Prop := PO X e (tDP X.K m)
theorem poImp {e : Option Expr} {t t' : TO} (h : PO X e t) (i : ∀ σ H Q, t' σ H Q → t σ H Q) : PO X e t' := ⟨fun pins s σ H Q I q => h.run pins s σ H Q I (i σ H Q q)⟩
@[simp] def mNoP : MP := fun _ S => some (none, S)
@[simp] def mP (m : ME) : MP := fun σ S => (m σ S).bind fun r => match r.1 with
  | .d (.int i) => some (some i, r.2)
  | _ => none
theorem dp_none : PDP X none mNoP := poImp po_none fun σ H Q ⟨ρ, σd, S, o, S', hs, he, hm, q⟩ => by
  cases hm
  exact q ρ H .refl hs
theorem dp_some {e : Expr} {m : ME} (h : PD X e m) : PDP X (some e) (mP m) := poImp (po_some h) fun σ H Q ⟨ρ, σd, S, o, S', hs, he, hm, q⟩ => by
  obtain ⟨⟨w1, S1⟩, h1, hm⟩ := Option.bind_eq_some_iff.mp hm
  refine ⟨ρ, σd, S, w1, S1, hs, he, h1, fun ρ1 v1 H1 e1 s1 r1 => ?_⟩
  dsimp only at hm
  split at hm
  · cases hm
    cases r1
    exact ⟨_, rfl, q ρ1 H1 e1 s1⟩
  · cases hm
def cutD (ds : List D) (lo hi : Option Int) : List D := (ds.drop (HT.sIx ds.length 0 lo)).take (HT.sIx ds.length ds.length hi - HT.sIx ds.length 0 lo)
theorem cutD_rel {ρ : Rho} {H : Hp} {ds : List D} {vs : List V} (r : RepL ρ H ds vs) (lo hi : Option Int) : RepL ρ H (cutD ds lo hi) (cutV vs lo hi) := by
  unfold cutD cutV
  rw [r.length]
  exact (r.drop _).take _
def vCut (S : Sto) (x : W) (lo hi : Option Int) : Option W := match x with
  | .d (.tuple ds) => some (.d (.tuple (cutD ds lo hi)))
  | _ => (asL S x).map fun ds => .d (.list (cutD ds lo hi))
@[simp] def mCut (o : ME) (l h : MP) : ME := fun σ S => (o σ S).bind fun r => (l σ r.2).bind fun p => (h σ p.2).bind fun q => (vCut q.2 r.1 p.1 q.1).map fun w => (w, q.2)
theorem cut_whole {ds : List D} {lo hi : Option Int} (h : HT.sIx ds.length 0 lo = 0 ∧ HT.sIx ds.length ds.length hi = ds.length) : cutD ds lo hi = ds := by
  unfold cutD
  rw [h.1, h.2]
  simp
/-- slices by values -/
def rCut (K : PySem.W.Frag) : V → Option Int → Option Int → Hp → VK → Prop := fun v lo hi H Q => ∃ ρ S x w, SRel ρ H S ∧ RelW K ρ H x v ∧ vCut S x lo hi = some w ∧ ∀ ρ' z H', Ext ρ H ρ' H' → SRel ρ' H' S → RelW K ρ' H' w z → Q z H'
theorem sl_cut : SlR X (rCut X.K) := by
  rintro pins s σ H x v vl vu lo hi sl Q I rx hsl pl pu ⟨ρ, S, w0, w, hs, r, hc, q⟩
  unfold vCut at hc
  split at hc
  · cases hc
    obtain ⟨a, vs, rfl, h1, h2, h3⟩ := rep_tup r
    refine sl_tupA pins s σ H _ v vl vu lo hi sl Q I rx hsl pl pu ⟨a, vs, rfl, SqT.of h1, fun hw => ?_, fun hw p hp => ?_⟩
    · rw [← h3.length] at hw
      have q' := q ρ (.ref a) H .refl hs
      rw [cut_whole hw] at q'
      exact q' (.tup h1 h2 h3)
    · exact q ρ _ _ (Ext.new hp) (hs.new hp) (.tup upd_same (hs.fresh hp) ((cutD_rel h3 lo hi).ext (Ext.new hp)))
  · rw [Option.map_eq_some_iff] at hc
    obtain ⟨ds, hL, rfl⟩ := hc
    obtain ⟨a, vs, rfl, hq, hr⟩ := asL_rel hs r hL
    refine sl_list pins s σ H _ v vl vu lo hi sl Q I rx hsl pl pu ⟨a, vs, rfl, hq, fun p hp => ?_⟩
    exact q ρ _ _ (Ext.new hp) (hs.new hp) (.lst upd_same (hs.fresh hp) ((cutD_rel hr lo hi).ext (Ext.new hp)))
theorem d_cut {e : Expr} {lo hi : Option Expr} {p2 pos : Pos} {m : ME} {ml mh : MP} (he : PD X e m) (hl : PDP X lo ml) (hh : PDP X hi mh) : PD X (.Subscript e (.Slice lo hi none p2) pos) (mCut m ml mh) :=
  peImp (pe_slice sl_cut he hl hh) fun σ H Q ⟨ρ, σd, S, w, S', hs, hE, hm, q⟩ => by
    obtain ⟨⟨w1, S1⟩, h1, hm⟩ := Option.bind_eq_some_iff.mp hm
    obtain ⟨⟨p1, S2⟩, h2, hm⟩ := Option.bind_eq_some_iff.mp hm
    obtain ⟨⟨p2, S3⟩, h3, hm⟩ := Option.bind_eq_some_iff.mp hm
    rw [Option.map_eq_some_iff] at hm
    obtain ⟨w', h4, h5⟩ := hm
    cases h5
    refine ⟨ρ, σd, S, w1, S1, hs, hE, h1, fun ρ1 v1 H1 e1 s1 r1 => ⟨ρ1, σd, S1, p1, S2, s1, hE.ext e1, h2, fun ρ2 H2 e2 s2 => ⟨ρ2, σd, S2, p2, S3, s2, hE.ext (e1.trans e2), h3, fun ρ3 H3 e3 s3 => ?_⟩⟩⟩
    exact ⟨ρ3, S3, w1, w, s3, r1.ext (e2.trans e3), h4, fun ρ4 z H4 e4 s4 r4 => q ρ4 z H4 (((e1.trans e2).trans e3).trans e4) s4 r4⟩
/-- xs[::-1] of a list -/
@[simp] def mRev (o : ME) : ME := fun σ S => (o σ S).bind fun r => (asL r.2 r.1).map fun ds => (.d (.list ds.reverse), r.2)
theorem d_rev {e : Expr} {k : Nat} {p1 p2 p3 pos : Pos} {m : ME} (he : PD X e m) : PD X (.Subscript e (.Slice none none (some (.UnaryOp .USub (.Constant (.int 1) k p1) p2)) p3) pos) (mRev m) :=
  peImp (pe_revL he) fun σ H Q ⟨ρ, σd, S, w, S', hs, hE, hm, q⟩ => by
    obtain ⟨⟨w1, S1⟩, h1, hm⟩ := Option.bind_eq_some_iff.mp hm
    rw [Option.map_eq_some_iff] at hm
    obtain ⟨ds, h2, h3⟩ := hm
    cases h3
    refine ⟨ρ, σd, S, w1, S1, hs, hE, h1, fun ρ1 v1 H1 e1 s1 r1 => ?_⟩
    obtain ⟨a, vs, rfl, hq, hr⟩ := asL_rel s1 r1 h2
    exact ⟨a, vs, rfl, hq, fun p hp => q ρ1 _ _ (e1.trans (Ext.new hp)) (s1.new hp) (.lst upd_same (s1.fresh hp) (hr.reverse.ext (Ext.new hp)))⟩
end
end DL

set_option Elab.async false
set_option linter.all false
set_option maxRecDepth 100000
set_option autoImplicit false
/-! The data layer, 7: functions, types and methods that are built in. -/
noncomputable section
namespace DL
open PySem PySem.Spec PyProof.Rows L2

section
variable {X : Cx}
@[simp] def pure1 (g : Sto → W → Option W) : GC := fun S ws => match ws with
  | [w] => (g S w).map fun u => (u, S)
  | _ => none
/-- one argument, nothing changed -/
theorem call1_of {f : Value} {g : Sto → W → Option W} (h : ∀ (pins : List (Addr × Obj)) (s : Shared) (σ : L2.St) (H : Hp) (v : V) (u : Value) (Q : VK) (ρ : Rho) (S : Sto) (x w : W), Inv X pins σ H s → RelV v u → SRel ρ H S → RelW X.K ρ H x v → g S x = some w →
    (∀ ρ' z H', Ext ρ H ρ' H' → SRel ρ' H' S → RelW X.K ρ' H' w z → Q z H') → wpAny (model X.prog X.w) X.A (call f [u]) (EP X pins σ Q) X.xe s) : CallD X f (pure1 g) := by
  rintro pins s σ H vs us Q I r ⟨ρ, S, ws, w, S', hs, rx, hg, q⟩
  unfold pure1 at hg
  split at hg
  · rename_i x
    rw [Option.map_eq_some_iff] at hg
    obtain ⟨w', h1, h2⟩ := hg
    cases h2
    obtain ⟨v, rfl, rv⟩ := rx.one
    obtain ⟨u, rfl, ru⟩ := vals1 r
    exact h pins s σ H v u Q ρ _ x w I ru hs rv h1 q
  · cases hg
/-- from a rule by values -/
theorem call1_by {f : Value} {r : List V → Hp → VK → Prop} {g : Sto → W → Option W} (hr : CallR X f r) (h : ∀ (H : Hp) (v : V) (Q : VK) (ρ : Rho) (S : Sto) (x w : W), SRel ρ H S → RelW X.K ρ H x v → g S x = some w →
    (∀ ρ' z H', Ext ρ H ρ' H' → SRel ρ' H' S → RelW X.K ρ' H' w z → Q z H') → r [v] H Q) : CallD X f (pure1 g) := by
  rintro pins s σ H vs us Q I rv ⟨ρ, S, ws, w, S', hs, rx, hg, q⟩
  unfold pure1 at hg
  split at hg
  · rename_i x
    rw [Option.map_eq_some_iff] at hg
    obtain ⟨w', h1, h2⟩ := hg
    cases h2
    obtain ⟨v, rfl, rv'⟩ := rx.one
    exact hr pins s σ H _ us Q I rv (h H v Q ρ _ x w hs rv' h1 q)
  · cases hg
@[simp] def pure2 (g : Sto → W → W → Option W) : GC := fun S ws => match ws with
  | [w, u] => (g S w u).map fun u => (u, S)
  | _ => none
theorem call2_by {f : Value} {r : List V → Hp → VK → Prop} {g : Sto → W → W → Option W} (hr : CallR X f r) (h : ∀ (H : Hp) (v u : V) (Q : VK) (ρ : Rho) (S : Sto) (x y w : W), SRel ρ H S → RelW X.K ρ H x v → RelW X.K ρ H y u → g S x y = some w →
    (∀ ρ' z H', Ext ρ H ρ' H' → SRel ρ' H' S → RelW X.K ρ' H' w z → Q z H') → r [v, u] H Q) : CallD X f (pure2 g) := by
  rintro pins s σ H vs us Q I rv ⟨ρ, S, ws, w, S', hs, rx, hg, q⟩
  unfold pure2 at hg
  split at hg
  · rename_i x y
    rw [Option.map_eq_some_iff] at hg
    obtain ⟨w', h1, h2⟩ := hg
    cases h2
    obtain ⟨v, u, rfl, rv', ru⟩ := rx.two
    exact hr pins s σ H _ us Q I rv (h H v u Q ρ _ x y w hs rv' ru h1 q)
  · cases hg

/-! len, abs, int, min, max -/
def seqOf (S : Sto) (x : W) : Option (List D) := match asT x with
  | some ds => some ds
  | none => asL S x
theorem seqOf_rel {K : PySem.W.Frag} {ρ : Rho} {H : Hp} {S : Sto} (s : SRel ρ H S) {w : W} {v : V} {ds : List D} (r : RelW K ρ H w v) (h : seqOf S w = some ds) : ∃ a vs, v = .ref a ∧ (SqL K H a vs ∨ SqT K H a vs) ∧ RepL ρ H ds vs := by
  unfold seqOf at h
  split at h
  · rename_i hT
    cases h
    obtain ⟨a, vs, e, h1, h2⟩ := asT_rel r hT
    exact ⟨a, vs, e, .inr h1, h2⟩
  · obtain ⟨a, vs, e, h1, h2⟩ := asL_rel s r h
    exact ⟨a, vs, e, .inl h1, h2⟩
def vLen (S : Sto) (x : W) : Option W := match x with
  | .d (.str z) => if fits z.length = true then some (.d (.int z.length)) else none
  | _ => (seqOf S x).map fun ds => .d (.int ds.length)
theorem c_len : CallD X (.builtin "len") (pure1 vLen) := call1_by call_len fun H v Q ρ S x w hs rx hg q => by
  unfold vLen at hg
  split at hg
  · obtain ⟨hf, hg⟩ := some_if hg
    cases hg
    cases rx
    exact ⟨_, _, rfl, ⟨fits_ok hf, rfl⟩, q ρ _ H .refl hs (.int _)⟩
  · rw [Option.map_eq_some_iff] at hg
    obtain ⟨ds, h1, rfl⟩ := hg
    obtain ⟨a, vs, rfl, h2, h3⟩ := seqOf_rel hs rx h1
    refine ⟨.ref a, ds.length, rfl, ?_, q ρ _ H .refl hs (.int _)⟩
    rcases h2 with h2 | h2
    · exact .inl ⟨vs, h2, h3.length⟩
    · exact .inr ⟨vs, h2, h3.length⟩
@[simp] def vInt1 (f : Int → Int) (S : Sto) (x : W) : Option W := match x with
  | .d (.int i) => some (.d (.int (f i)))
  | _ => none
def absI (i : Int) : Int := if i < 0 then -i else i
theorem c_abs : CallD X (.builtin "abs") (pure1 (vInt1 absI)) := call1_by call_abs fun H v Q ρ S x w hs rx hg q => by
  unfold vInt1 at hg
  split at hg
  · cases hg
    cases rx
    exact ⟨_, rfl, q ρ _ H .refl hs (.int _)⟩
  · cases hg
@[simp] def vInt (S : Sto) (x : W) : Option W := match x with
  | .d (.int i) => some (.d (.int i))
  | .d (.bool b) => some (.d (.int (if b then 1 else 0)))
  | _ => none
theorem c_int : CallD X (.type "int") (pure1 vInt) := call1_by call_int1 fun H v Q ρ S x w hs rx hg q => by
  unfold vInt at hg
  split at hg
  · cases hg
    cases rx
    exact .inl ⟨_, rfl, q ρ _ H .refl hs (.int _)⟩
  · cases hg
    cases rx
    exact .inr ⟨_, rfl, q ρ _ H .refl hs (.int _)⟩
  · cases hg
def vInt22 (f : Int → Int → Int) (S : Sto) (x y : W) : Option W := match x, y with
  | .d (.int i), .d (.int j) => some (.d (.int (f i j)))
  | _, _ => none
def maxI (i j : Int) : Int := if j > i then j else i
def minI (i j : Int) : Int := if j < i then j else i
theorem c_max2 (hc : X.calm = true) : CallD X (.builtin "max") (pure2 (vInt22 maxI)) := call2_by (call_max2 hc) fun H v u Q ρ S x y w hs rx ry hg q => by
  unfold vInt22 at hg
  split at hg
  · cases hg
    cases rx; cases ry
    exact ⟨_, _, rfl, q ρ _ H .refl hs (.int _)⟩
  · cases hg
theorem c_min2 (hc : X.calm = true) : CallD X (.builtin "min") (pure2 (vInt22 minI)) := call2_by (call_min2 hc) fun H v u Q ρ S x y w hs rx ry hg q => by
  unfold vInt22 at hg
  split at hg
  · cases hg
    cases rx; cases ry
    exact ⟨_, _, rfl, q ρ _ H .refl hs (.int _)⟩
  · cases hg
/-! lists of numbers, of truth values -/
def intsOf : List D → Option (List Int)
  | [] => some []
  | .int i :: ds => (intsOf ds).map fun ns => i :: ns
  | _ :: _ => none
theorem intsOf_eq : ∀ {ds : List D} {ns : List Int}, intsOf ds = some ns → ds = ns.map PyData.int
  | [], _, h => by cases h; rfl
  | .int i :: ds, _, h => by
    simp only [intsOf, Option.map_eq_some_iff] at h
    obtain ⟨ns, h1, rfl⟩ := h
    rw [intsOf_eq h1]; rfl
  | .none :: _, _, h => by cases h
  | .bool _ :: _, _, h => by cases h
  | .str _ :: _, _, h => by cases h
  | .list _ :: _, _, h => by cases h
  | .tuple _ :: _, _, h => by cases h
  | .dict _ :: _, _, h => by cases h
@[simp] theorem intsOf_map (ns : List Int) : intsOf (ns.map PyData.int) = some ns := by
  induction ns with
  | nil => rfl
  | cons n ns ih => simp [intsOf, ih]
def boolsOf : List D → Option (List Bool)
  | [] => some []
  | .bool i :: ds => (boolsOf ds).map fun ns => i :: ns
  | _ :: _ => none
theorem boolsOf_eq : ∀ {ds : List D} {ns : List Bool}, boolsOf ds = some ns → ds = ns.map PyData.bool
  | [], _, h => by cases h; rfl
  | .bool i :: ds, _, h => by
    simp only [boolsOf, Option.map_eq_some_iff] at h
    obtain ⟨ns, h1, rfl⟩ := h
    rw [boolsOf_eq h1]; rfl
  | .none :: _, _, h => by cases h
  | .int _ :: _, _, h => by cases h
  | .str _ :: _, _, h => by cases h
  | .list _ :: _, _, h => by cases h
  | .tuple _ :: _, _, h => by cases h
  | .dict _ :: _, _, h => by cases h
@[simp] theorem boolsOf_map (ns : List Bool) : boolsOf (ns.map PyData.bool) = some ns := by
  induction ns with
  | nil => rfl
  | cons n ns ih => simp [boolsOf, ih]
def vSum (S : Sto) (x : W) : Option W := (seqOf S x).bind fun ds => (intsOf ds).map fun ns => .d (.int ns.sum)
theorem c_sum (hc : X.calm = true) : CallD X (.builtin "sum") (pure1 vSum) := call1_of fun pins s σ H v u Q ρ S x w I r hs rx hg q => by
  obtain ⟨ds, h1, hg⟩ := Option.bind_eq_some_iff.mp hg
  rw [Option.map_eq_some_iff] at hg
  obtain ⟨ns, h2, rfl⟩ := hg
  have := intsOf_eq h2
  subst this
  obtain ⟨a, vs, rfl, h3, h4⟩ := seqOf_rel hs rx h1
  have := h4.ints
  subst this
  have qq := q ρ (.int ns.sum) H .refl hs (.int _)
  rcases h3 with h3 | h3
  · exact cr_sum hc pins s σ H [.ref a] [u] Q I (.cons r .nil) ⟨a, ns, rfl, h3, qq⟩
  · obtain rfl : u = Value.ref a := r
    obtain ⟨its, rv, ht, _⟩ := I.tuple h3
    have hi := rv.ints
    obtain ⟨xs, e⟩ := hi.allInts.items
    have hn : numsOf (intItems xs).toList = ns := by rw [← e]; exact hi.numsOf
    rw [nums_intItems] at hn
    rw [e] at ht
    refine PySem.W.ktm_sumG (I.ok.hd hc) (show s.heap.IsTuple a (intItems xs) from ht) fun h' tk t' hk => ?_
    rw [preSum_eq, List.take_of_length_le (by simp), hn]
    exact ⟨.int ns.sum, H, I.kept hk, ⟨_, rfl⟩, qq⟩
def vAll (S : Sto) (x : W) : Option W := (asL S x).bind fun ds => (boolsOf ds).map fun bs => .d (.bool (bs.all id))
def vAny (S : Sto) (x : W) : Option W := (asL S x).bind fun ds => (boolsOf ds).map fun bs => .d (.bool (bs.any id))
theorem c_all (hc : X.calm = true) : CallD X (.builtin "all") (pure1 vAll) := call1_by (cr_all hc) fun H v Q ρ S x w hs rx hg q => by
  obtain ⟨ds, h1, hg⟩ := Option.bind_eq_some_iff.mp hg
  rw [Option.map_eq_some_iff] at hg
  obtain ⟨bs, h2, rfl⟩ := hg
  have := boolsOf_eq h2
  subst this
  obtain ⟨a, vs, rfl, h3, h4⟩ := asL_rel hs rx h1
  have := h4.bools
  subst this
  exact ⟨a, bs, rfl, h3, q ρ _ H .refl hs (.bl _)⟩
theorem c_any (hc : X.calm = true) : CallD X (.builtin "any") (pure1 vAny) := call1_by (cr_any hc) fun H v Q ρ S x w hs rx hg q => by
  obtain ⟨ds, h1, hg⟩ := Option.bind_eq_some_iff.mp hg
  rw [Option.map_eq_some_iff] at hg
  obtain ⟨bs, h2, rfl⟩ := hg
  have := boolsOf_eq h2
  subst this
  obtain ⟨a, vs, rfl, h3, h4⟩ := asL_rel hs rx h1
  have := h4.bools
  subst this
  exact ⟨a, bs, rfl, h3, q ρ _ H .refl hs (.bl _)⟩
/-- the greatest, the least of a list of numbers -/
def maxL : Int → List Int → Int
  | m, [] => m
  | m, x :: xs => maxL (if x > m then x else m) xs
def minL : Int → List Int → Int
  | m, [] => m
  | m, x :: xs => minL (if x < m then x else m) xs
theorem maxL_spec : ∀ (xs : List Int) (m : Int), (maxL m xs = m ∨ maxL m xs ∈ xs) ∧ m ≤ maxL m xs ∧ ∀ y ∈ xs, y ≤ maxL m xs
  | [], m => ⟨.inl rfl, Int.le_refl _, fun y h => by cases h⟩
  | x :: xs, m => by
    have ih := maxL_spec xs (if x > m then x else m)
    unfold maxL
    by_cases h : x > m
    · rw [if_pos h] at ih ⊢
      refine ⟨.inr (ih.1.elim (fun e => by rw [e]; exact List.mem_cons_self) (fun e => List.mem_cons_of_mem _ e)), by omega, fun y hy => ?_⟩
      rcases List.mem_cons.mp hy with rfl | hy
      · exact ih.2.1
      · exact ih.2.2 y hy
    · rw [if_neg h] at ih ⊢
      refine ⟨ih.1.elim .inl (fun e => .inr (List.mem_cons_of_mem _ e)), ih.2.1, fun y hy => ?_⟩
      rcases List.mem_cons.mp hy with rfl | hy
      · omega
      · exact ih.2.2 y hy
theorem minL_spec : ∀ (xs : List Int) (m : Int), (minL m xs = m ∨ minL m xs ∈ xs) ∧ minL m xs ≤ m ∧ ∀ y ∈ xs, minL m xs ≤ y
  | [], m => ⟨.inl rfl, Int.le_refl _, fun y h => by cases h⟩
  | x :: xs, m => by
    have ih := minL_spec xs (if x < m then x else m)
    unfold minL
    by_cases h : x < m
    · rw [if_pos h] at ih ⊢
      refine ⟨.inr (ih.1.elim (fun e => by rw [e]; exact List.mem_cons_self) (fun e => List.mem_cons_of_mem _ e)), by omega, fun y hy => ?_⟩
      rcases List.mem_cons.mp hy with rfl | hy
      · exact ih.2.1
      · exact ih.2.2 y hy
    · rw [if_neg h] at ih ⊢
      refine ⟨ih.1.elim .inl (fun e => .inr (List.mem_cons_of_mem _ e)), ih.2.1, fun y hy => ?_⟩
      rcases List.mem_cons.mp hy with rfl | hy
      · omega
      · exact ih.2.2 y hy
def vMaxL (S : Sto) (x : W) : Option W := (asL S x).bind fun ds => (intsOf ds).bind fun ns => match ns with
  | [] => none
  | m :: ms => some (.d (.int (maxL m ms)))
def vMinL (S : Sto) (x : W) : Option W := (asL S x).bind fun ds => (intsOf ds).bind fun ns => match ns with
  | [] => none
  | m :: ms => some (.d (.int (minL m ms)))
theorem c_maxL (hc : X.calm = true) : CallD X (.builtin "max") (pure1 vMaxL) := call1_by (cr_max hc) fun H v Q ρ S x w hs rx hg0 q => by
  obtain ⟨ds, h1, hg⟩ := Option.bind_eq_some_iff.mp hg0
  clear hg0
  obtain ⟨ns, h2, hg2⟩ := Option.bind_eq_some_iff.mp hg
  clear hg
  have := intsOf_eq h2
  subst this
  obtain ⟨a, vs, rfl, h3, h4⟩ := asL_rel hs rx h1
  have := h4.ints
  subst this
  cases ns with
  | nil => cases hg2
  | cons m ms =>
    cases hg2
    refine ⟨a, m :: ms, rfl, h3, by simp, fun z hz hle => ?_⟩
    obtain ⟨s1, s2, s3⟩ := maxL_spec ms m
    have e : z = maxL m ms := by
      have a1 : maxL m ms ≤ z := s1.elim (fun e => by rw [e]; exact hle m List.mem_cons_self) fun e => hle _ (List.mem_cons_of_mem _ e)
      have a2 : z ≤ maxL m ms := by
        rcases List.mem_cons.mp hz with rfl | hz
        · exact s2
        · exact s3 z hz
      omega
    rw [e]
    exact q ρ _ H .refl hs (.int _)
theorem c_minL (hc : X.calm = true) : CallD X (.builtin "min") (pure1 vMinL) := call1_by (cr_min hc) fun H v Q ρ S x w hs rx hg0 q => by
  obtain ⟨ds, h1, hg⟩ := Option.bind_eq_some_iff.mp hg0
  clear hg0
  obtain ⟨ns, h2, hg2⟩ := Option.bind_eq_some_iff.mp hg
  clear hg
  have := intsOf_eq h2
  subst this
  obtain ⟨a, vs, rfl, h3, h4⟩ := asL_rel hs rx h1
  have := h4.ints
  subst this
  cases ns with
  | nil => cases hg2
  | cons m ms =>
    cases hg2
    refine ⟨a, m :: ms, rfl, h3, by simp, fun z hz hle => ?_⟩
    obtain ⟨s1, s2, s3⟩ := minL_spec ms m
    have e : z = minL m ms := by
      have a1 : z ≤ minL m ms := s1.elim (fun e => by rw [e]; exact hle m List.mem_cons_self) fun e => hle _ (List.mem_cons_of_mem _ e)
      have a2 : minL m ms ≤ z := by
        rcases List.mem_cons.mp hz with rfl | hz
        · exact s2
        · exact s3 z hz
      omega
    rw [e]
    exact q ρ _ H .refl hs (.int _)

/-! kinds -/
def tyName : W → Option String
  | .d .none => some "NoneType"
  | .d (.bool _) => some "bool"
  | .d (.int _) => some "int"
  | .d (.str _) => some "str"
  | .d (.list _) => some "list"
  | .d (.tuple _) => some "tuple"
  | _ => none
theorem tyName_rel {K : PySem.W.Frag} {ρ : Rho} {H : Hp} {x : W} {v : V} {T : String} (h : tyName x = some T) (r : RelW K ρ H x v) : TyX K H v (.type T) := by
  cases x with
  | d z =>
    cases z with
    | none => cases h; cases r; exact .base .non
    | bool b => cases h; cases r; exact .base (.bl b)
    | int b => cases h; cases r; exact .base (.int b)
    | str b => cases h; cases r; exact .base (.str b)
    | list b => cases h; obtain ⟨a, vs, rfl, h1, _⟩ := rep_lst r; exact .base (.lst h1)
    | tuple b => cases h; obtain ⟨a, vs, rfl, h1, _⟩ := rep_tup r; exact .base (.tup h1)
    | dict _ => cases h
  | _ => cases h
def vIsi (S : Sto) (x c : W) : Option W := match c with
  | .v (.ty T) => (tyName x).bind fun n => (kitB n T).map fun b => .d (.bool b)
  | _ => none
theorem c_isi : CallD X (.builtin "isinstance") (pure2 vIsi) := call2_by call_isi fun H v u Q ρ S x y w hs rx ry hg q => by
  unfold vIsi at hg
  split at hg
  · rename_i T
    obtain ⟨n, h1, hg⟩ := Option.bind_eq_some_iff.mp hg
    rw [Option.map_eq_some_iff] at hg
    obtain ⟨b, h2, rfl⟩ := hg
    have e : u = .ty T := ry
    subst e
    exact ⟨v, .ty T, .type n, .type T, b, rfl, .ty T, tyName_rel h1 rx, kit_ty h2, q ρ _ H .refl hs (.bl b)⟩
  · cases hg
theorem d_type {x : Str} {T : String} {pos : Pos} (hg : Gl X x) (hm : X.mg x = none) (hv : bootBuiltins x = some (.type T)) (hn : x ≠ "__name__" := by decide) (hd : (x == ("__debug__" : Str)) = false := by decide) : PD X (.Name x pos) (mC (.v (.ty T))) :=
  d_c (v := .ty T) (pe_bltn hg hm hv rfl hn hd) fun _ _ => rfl

/-! tuple, list -/
def vTuple (S : Sto) (x : W) : Option W := match x with
  | .d (.tuple ds) => some (.d (.tuple ds))
  | .ct ds => some (.ct ds)
  | _ => (asL S x).map fun ds => .d (.tuple ds)
theorem c_tuple : CallD X (.type "tuple") (pure1 vTuple) := call1_by call_tuple_of fun H v Q ρ S x w hs rx hg q => by
  unfold vTuple at hg
  split at hg
  · cases hg
    obtain ⟨a, vs, rfl, h1, h2, h3⟩ := rep_tup rx
    exact ⟨a, vs, rfl, .inr ⟨SqT.of h1, q ρ _ H .refl hs (.tup h1 h2 h3)⟩⟩
  · cases hg
    obtain ⟨a, vs, rfl, h1, h2⟩ := id rx
    exact ⟨a, vs, rfl, .inr ⟨h1 H, q ρ _ H .refl hs rx⟩⟩
  · rw [Option.map_eq_some_iff] at hg
    obtain ⟨ds, h1, rfl⟩ := hg
    obtain ⟨a, vs, rfl, h2, h3⟩ := asL_rel hs rx h1
    exact ⟨a, vs, rfl, .inl ⟨h2, fun p hp => q ρ _ _ (Ext.new hp) (hs.new hp) (.tup upd_same (hs.fresh hp) (h3.ext (Ext.new hp)))⟩⟩
def vList (S : Sto) (x : W) : Option W := (seqOf S x).map fun ds => .d (.list ds)
theorem c_list : CallD X (.type "list") (pure1 vList) := call1_by call_list_of fun H v Q ρ S x w hs rx hg q => by
  unfold vList at hg
  rw [Option.map_eq_some_iff] at hg
  obtain ⟨ds, h1, rfl⟩ := hg
  obtain ⟨a, vs, rfl, h2, h3⟩ := seqOf_rel hs rx h1
  exact ⟨a, vs, rfl, h2, fun p hp => q ρ _ _ (Ext.new hp) (hs.new hp) (.lst upd_same (hs.fresh hp) (h3.ext (Ext.new hp)))⟩
/-- list(x), to be changed -/
def gListN : GC := fun S ws => match ws with
  | [w] => (seqOf S w).map fun ds => (.loc S.length, S ++ [.lst ds])
  | _ => none
theorem c_listN : CallD X (.type "list") gListN := by
  rintro pins s σ H vs us Q I rv ⟨ρ, S, ws, w, S', hs, rx, hg, q⟩
  unfold gListN at hg
  split at hg
  · rename_i x
    rw [Option.map_eq_some_iff] at hg
    obtain ⟨ds, h1, h2⟩ := hg
    cases h2
    obtain ⟨v, rfl, rv'⟩ := rx.one
    obtain ⟨a, us', rfl, h2, h3⟩ := seqOf_rel hs rv' h1
    refine call_list_of pins s σ H _ us Q I rv ⟨a, us', rfl, h2, fun p hp => ?_⟩
    exact q (ρ.add p) _ _ (Ext.alloc hs hp) (hs.alloc hp ⟨us', upd_same, h3.ext (Ext.alloc hs hp)⟩) (new_loc hs)
  · cases hg
/-- list(range(..)) -/
theorem rangeD_rep {ρ : Rho} {H : Hp} (i j : Int) : RepL ρ H (rangeD i (j - i).toNat) (rgV i j) := by
  have key : ∀ (n : Nat) (lo : Int), RepL ρ H (rangeD lo n) ((List.range n).map fun k => V.int (lo + (k : Nat) * 1)) := by
    intro n
    induction n with
    | zero => intro lo; exact .nil
    | succ n ih =>
      intro lo
      rw [List.range_succ_eq_map, List.map_cons, List.map_map]
      refine .cons ?_ ?_
      · simpa using Rep.int (ρ := ρ) (H := H) lo
      · have := ih (lo + 1)
        have e : (List.range n).map ((fun k : Nat => V.int (lo + (k : Nat) * 1)) ∘ Nat.succ) = (List.range n).map fun k => V.int (lo + 1 + (k : Nat) * 1) := by
          apply List.map_congr_left
          intro k _
          show V.int (lo + ((k + 1 : Nat) : Int) * 1) = V.int (lo + 1 + (k : Nat) * 1)
          congr 1
          omega
        rw [e]
        exact this
  have := key (j - i).toNat i
  unfold rgV
  simpa using this
abbrev MR := Env → Sto → Option ((Int × Int) × Sto)
def tDR (K : PySem.W.Frag) (m : MR) : L2.St → Hp → (Int → Int → Hp → Prop) → Prop := fun σ H Q => ∃ ρ σd S i j S', SRel ρ H S ∧ RelE K ρ H σd σ ∧ m σd S = some ((i, j), S') ∧ ∀ ρ' H', Ext ρ H ρ' H' → SRel ρ' H' S' → Q i j H'
abbrev PDR (X : Cx) (e : Expr) (m : MR) : Prop := PRg X e (tDR X.K m)
@[simp] def rg1 (a : ME) : MR := fun σ S => (a σ S).bind fun r => match r.1 with
  | .d (.int n) => some ((0, n), r.2)
  | _ => none
@[simp] def rg2 (a b : ME) : MR := fun σ S => (a σ S).bind fun r => (b σ r.2).bind fun q => match r.1, q.1 with
  | .d (.int i), .d (.int j) => some ((i, j), q.2)
  | _, _ => none
theorem dr_1 {a : Expr} {m : ME} {p pos : Pos} (hg : Gl X "range") (hm : X.mg "range" = none) (ha : PD X a m) (na : starEach [a] X.env = (false, eval a X.env) :: starEach [] X.env := by rfl) : PDR X (.Call (.Name "range" p) [a] [] pos) (rg1 m) :=
  fun pins s σ H Q I ⟨ρ, σd, S, i, j, S', hs, he, hmm, q⟩ => prg_1 hg hm ha na pins s σ H Q I (by
    obtain ⟨⟨w1, S1⟩, h1, hmm⟩ := Option.bind_eq_some_iff.mp hmm
    refine ⟨ρ, σd, S, w1, S1, hs, he, h1, fun ρ1 v1 H1 e1 s1 r1 => ?_⟩
    dsimp only at hmm
    split at hmm
    · cases hmm
      cases r1
      exact ⟨_, rfl, q ρ1 H1 e1 s1⟩
    · cases hmm)
theorem dr_2 {a b : Expr} {ma mb : ME} {p pos : Pos} (hg : Gl X "range") (hm : X.mg "range" = none) (ha : PD X a ma) (hb : PD X b mb) (na : starEach [a, b] X.env = (false, eval a X.env) :: starEach [b] X.env := by rfl)
    (nb : starEach [b] X.env = (false, eval b X.env) :: starEach [] X.env := by rfl) (hp : (backTo pos (starEach [b] X.env)).any (·.1) = false := by rfl) : PDR X (.Call (.Name "range" p) [a, b] [] pos) (rg2 ma mb) :=
  fun pins s σ H Q I ⟨ρ, σd, S, i, j, S', hs, he, hmm, q⟩ => prg_2 hg hm ha hb na nb hp pins s σ H Q I (by
    obtain ⟨⟨w1, S1⟩, h1, hmm⟩ := Option.bind_eq_some_iff.mp hmm
    obtain ⟨⟨w2, S2⟩, h2, hmm⟩ := Option.bind_eq_some_iff.mp hmm
    refine ⟨ρ, σd, S, w1, S1, hs, he, h1, fun ρ1 v1 H1 e1 s1 r1 => ⟨ρ1, σd, S1, w2, S2, s1, he.ext e1, h2, fun ρ2 v2 H2 e2 s2 r2 => ?_⟩⟩
    dsimp only at hmm
    split at hmm
    · cases hmm
      cases r1; cases r2
      exact ⟨_, _, rfl, rfl, q ρ2 H2 (e1.trans e2) s2⟩
    · cases hmm)
def rgOk (i j : Int) : Bool := big62 i && big62 j && says ((j - i).toNat ≤ 16777216)
theorem rgOk_of {i j : Int} (h : rgOk i j = true) : RgOk i j := by
  unfold rgOk big62 at h
  rw [Bool.and_eq_true, Bool.and_eq_true, says_iff, says_iff, says_iff] at h
  exact ⟨h.1.1.1, h.1.1.2, h.1.2.1, h.1.2.2, h.2⟩
@[simp] def mListR (m : MR) : ME := fun σ S => (m σ S).bind fun r => if rgOk r.1.1 r.1.2 = true then some (.d (.list (rangeD r.1.1 (r.1.2 - r.1.1).toNat)), r.2) else none
@[simp] def mTupR (m : MR) : ME := fun σ S => (m σ S).bind fun r => if rgOk r.1.1 r.1.2 = true then some (.d (.tuple (rangeD r.1.1 (r.1.2 - r.1.1).toNat)), r.2) else none
theorem d_listR {e : Expr} {m : MR} {p pos : Pos} (hc : X.calm = true) (hg : Gl X "list") (hm : X.mg "list" = none) (he : PDR X e m) (na : starEach [e] X.env = (false, eval e X.env) :: starEach [] X.env := by rfl) : PD X (.Call (.Name "list" p) [e] [] pos) (mListR m) :=
  peImp (pe_listRg hc hg hm he na) fun σ H Q ⟨ρ, σd, S, w, S', hs, he, hmm, q⟩ => by
    obtain ⟨⟨⟨i, j⟩, S1⟩, h1, hmm⟩ := Option.bind_eq_some_iff.mp hmm
    obtain ⟨hf, hmm⟩ := some_if hmm
    cases hmm
    exact ⟨ρ, σd, S, i, j, _, hs, he, h1, fun ρ1 H1 e1 s1 => ⟨rgOk_of hf, fun p hp => q ρ1 _ _ (e1.trans (Ext.new hp)) (s1.new hp) (.lst upd_same (s1.fresh hp) ((rangeD_rep i j).ext (Ext.new hp)))⟩⟩
theorem d_tupR {e : Expr} {m : MR} {p pos : Pos} (hc : X.calm = true) (hg : Gl X "tuple") (hm : X.mg "tuple" = none) (he : PDR X e m) (na : starEach [e] X.env = (false, eval e X.env) :: starEach [] X.env := by rfl) : PD X (.Call (.Name "tuple" p) [e] [] pos) (mTupR m) :=
  peImp (pe_tupRg hc hg hm he na) fun σ H Q ⟨ρ, σd, S, w, S', hs, he, hmm, q⟩ => by
    obtain ⟨⟨⟨i, j⟩, S1⟩, h1, hmm⟩ := Option.bind_eq_some_iff.mp hmm
    obtain ⟨hf, hmm⟩ := some_if hmm
    cases hmm
    exact ⟨ρ, σd, S, i, j, _, hs, he, h1, fun ρ1 H1 e1 s1 => ⟨rgOk_of hf, fun p hp => q ρ1 _ _ (e1.trans (Ext.new hp)) (s1.new hp) (.tup upd_same (s1.fresh hp) ((rangeD_rep i j).ext (Ext.new hp)))⟩⟩

/-! repr -/
def showOk (d : D) : Bool := d.showable && !d.hasDict && decide (d.depth ≤ 64) && fits d.shown.length
def vRepr (S : Sto) (x : W) : Option W := (asD S x).bind fun d => if showOk d = true then some (.d (.str d.shown)) else none
theorem c_repr (hG : X.A.guards = some []) (hu : X.A.units + 66 < cLine) : CallD X (.builtin "repr") (pure1 vRepr) := call1_of fun pins s σ H v u Q ρ S x w I r hs rx hg q => by
  obtain ⟨d, h1, hg⟩ := Option.bind_eq_some_iff.mp hg
  obtain ⟨hf, hg⟩ := some_if hg
  cases hg
  unfold showOk at hf
  rw [Bool.and_eq_true, Bool.and_eq_true, Bool.and_eq_true, Bool.not_eq_true', decide_eq_true_eq] at hf
  obtain ⟨⟨⟨f1, f2⟩, f3⟩, f4⟩ := hf
  have qq := q ρ (.str d.shown) H .refl hs (.str _)
  have dp := asD_dp hs rx h1
  obtain ⟨as, rd⟩ := Dp.reads I d v u dp r
  have ref : ∀ a, u = Value.ref a → wpAny (model X.prog X.w) X.A (call (.builtin "repr") [u]) (EP X pins σ Q) X.xe s := by
    rintro a rfl
    exact PySem.repr_of_reads' rd f1 (PySem.PyData.noDict_hsm f2) hG (by omega) (fun b o e => e) (fun h' u' tk hk => ⟨.str d.shown, H, I.kept hk, ⟨_, rfl⟩, qq⟩) (fits_ok f4)
  cases dp with
  | non => cases r; exact PySem.P.repr_of_none ⟨.str (PyData.shown .none), H, I.tok _, ⟨_, by simp only [PyData.shown]; rfl⟩, qq⟩
  | bl b => cases r; exact PySem.P.repr_of_bool ⟨.str (PyData.shown (.bool b)), H, I.tok _, ⟨_, by simp only [PyData.shown]; rfl⟩, qq⟩
  | int i =>
    obtain ⟨t, rfl⟩ := r
    exact PySem.P.repr_of_int (of_decide_eq_true f1) ⟨.str (PyData.shown (.int i)), H, I.tok _, ⟨_, by simp only [PyData.shown]; rfl⟩, qq⟩
  | str z =>
    obtain ⟨t, rfl⟩ := r
    exact PySem.P.repr_of_str ⟨.str (PyData.shown (.str z)), H, I.tok _, ⟨_, by simp only [PyData.shown]; rfl⟩, qq⟩ (by have := fits_ok f4; simpa only [PyData.shown] using this)
  | lst _ _ => exact ref _ r
  | tup _ _ => exact ref _ r

/-! methods of lists -/
def isLoc (S : Sto) : W → Bool
  | .loc i => match S[i]? with
    | some (.lst _) => true
    | _ => false
  | .d (.list _) => true
  | _ => false
theorem ty_list : TyD X "list" isLoc := fun ρ H S w v hs r h => by
  cases w with
  | d x =>
    cases x with
    | list xs =>
      obtain ⟨a, vs, rfl, h1, _⟩ := rep_lst r
      exact .inl ⟨rfl, vs, SqL.of h1⟩
    | _ => cases h
  | loc i =>
    simp only [isLoc] at h
    split at h
    · rename_i xs e
      obtain ⟨a, vs, rfl, _, h2, _⟩ := hs.lst_at r e
      exact .inl ⟨rfl, vs, SqL.of h2⟩
    · cases h
  | _ => cases h
def gAppend : GM := fun S x ws => match x, ws with
  | .loc i, [.d y] => match S[i]? with
    | some (.lst xs) => if fits (xs.length + 1) = true then some (.d .none, S.set i (.lst (xs ++ [y]))) else none
    | _ => none
  | _, _ => none
theorem t_append : MtD X "list.append" gAppend := by
  rintro pins s σ H x vs v us Q I rx rvs ⟨ρ, S, w, ws, w', S', hs, rw', rws, hg, q⟩
  unfold gAppend at hg
  split at hg
  · rename_i i y
    split at hg
    · rename_i xs e
      obtain ⟨hf, hg⟩ := some_if hg
      cases hg
      obtain ⟨a, zs, rfl, hl, h2, h3⟩ := hs.lst_at rw' e
      obtain ⟨z, rfl, rz⟩ := rws.one
      have hm := List.mem_of_getElem? hl
      refine mt_append pins s σ H _ _ _ _ Q I rx rvs ⟨a, zs, z, rfl, rfl, h2, by rw [← h3.length]; exact fits_lt hf, ?_⟩
      exact q ρ _ _ (Ext.write hm) (hs.write hl ⟨_, upd_same, (h3.append (.cons rz .nil)).ext (Ext.write hm)⟩) .non
    · cases hg
  · cases hg
def gExtend : GM := fun S x ws => match x, ws with
  | .loc i, [.d (.list ys)] => match S[i]? with
    | some (.lst xs) => if fits (xs.length + ys.length) = true then some (.d .none, S.set i (.lst (xs ++ ys))) else none
    | _ => none
  | _, _ => none
theorem t_extend : MtD X "list.extend" gExtend := by
  rintro pins s σ H x vs v us Q I rx rvs ⟨ρ, S, w, ws, w', S', hs, rw', rws, hg, q⟩
  unfold gExtend at hg
  split at hg
  · rename_i i ys
    split at hg
    · rename_i xs e
      obtain ⟨hf, hg⟩ := some_if hg
      cases hg
      obtain ⟨a, zs, rfl, hl, h2, h3⟩ := hs.lst_at rw' e
      obtain ⟨z, rfl, rz⟩ := rws.one
      obtain ⟨b, us', rfl, g1, g2, g3⟩ := rep_lst rz
      have hm := List.mem_of_getElem? hl
      refine mt_extend pins s σ H _ _ _ _ Q I rx rvs ⟨a, b, zs, us', rfl, rfl, h2, g1, by rw [← h3.length, ← g3.length]; exact fits_ok hf, ?_⟩
      exact q ρ _ _ (Ext.write hm) (hs.write hl ⟨_, upd_same, (h3.append g3).ext (Ext.write hm)⟩) .non
    · cases hg
  · cases hg
/-- the first place of an equal item -/
def indexD (d : D) : List D → Option Nat
  | [] => none
  | z :: ds => if PyData.eqv z d = true then some 0 else (indexD d ds).map (· + 1)
theorem indexD_spec {d : D} : ∀ {ds : List D} {j : Nat}, indexD d ds = some j → ∃ z, ds[j]? = some z ∧ PyData.eqv z d = true ∧ ∀ m z', m < j → ds[m]? = some z' → PyData.eqv z' d = false
  | [], _, h => by cases h
  | z :: ds, j, h => by
    unfold indexD at h
    split at h
    · rename_i e
      cases h
      exact ⟨z, rfl, e, fun m z' hm => by omega⟩
    · rename_i e
      rw [Option.map_eq_some_iff] at h
      obtain ⟨k, hk, rfl⟩ := h
      obtain ⟨z0, h1, h2, h3⟩ := indexD_spec hk
      refine ⟨z0, h1, h2, fun m z' hm hz => ?_⟩
      cases m with
      | zero => simp at hz; subst hz; simpa using e
      | succ m => exact h3 m z' (by omega) (by simpa using hz)
def gIndex : GM := fun S x ws => match ws with
  | [.d y] => (asL S x).bind fun ds => if (flatD y && ds.all flatD) = true then (indexD y ds).map fun (j : Nat) => (W.d (.int (j : Int)), S) else none
  | _ => none
theorem t_index : MtD X "list.index" gIndex := by
  rintro pins s σ H x vs v us Q I rx rvs ⟨ρ, S, w, ws, w', S', hs, rw', rws, hg, q⟩
  unfold gIndex at hg
  split at hg
  · rename_i y
    obtain ⟨ds, hL, hg⟩ := Option.bind_eq_some_iff.mp hg
    split at hg
    · rename_i hf
      rw [Option.map_eq_some_iff] at hg
      obtain ⟨j, hj, h2⟩ := hg
      cases h2
      rw [Bool.and_eq_true] at hf
      obtain ⟨a, zs, rfl, hq, hr⟩ := asL_rel hs rw' hL
      obtain ⟨z, rfl, rz⟩ := rws.one
      obtain ⟨d0, h1, h2, h3⟩ := indexD_spec hj
      obtain ⟨z0, g1, g2⟩ := hr.get h1
      have fl := flatL_rel hr hf.2
      have fd : ∀ {m : Nat} {e : D}, ds[m]? = some e → flatD e = true := fun {m e} he => List.all_eq_true.mp hf.2 e (List.mem_of_getElem? he)
      refine mt_index pins s σ H _ _ _ _ Q I rx rvs ⟨a, zs, z, j, z0, rfl, rfl, hq, flat_rel rz hf.1, fl, g1, by rw [eqV_rel g2 rz (fd h1) hf.1]; exact h2, fun m z' hm hz => ?_, q ρ _ H .refl hs (.int _)⟩
      obtain ⟨e, he, hre⟩ := hr.getV hz
      rw [eqV_rel hre rz (fd he) hf.1]
      exact h3 m e hm he
    · cases hg
  · cases hg
end
end DL

set_option Elab.async false
set_option linter.all false
set_option maxRecDepth 100000
set_option autoImplicit false
noncomputable section
/-! The data layer: dicts walked (locked for a statement), a list or a tuple walked, lists unpacked. -/
namespace DL
open PySem PySem.Spec PyProof.Rows L2
/-! ### a dict is locked, and let go -/
def Dic : HO → Prop
  | .dK _ => True
  | .dT _ => True
  | _ => False
/-- H1 is H but for the dict at d: locked or not -/
structure Step (H H1 : Hp) (d : Addr) (u : HO) : Prop where
  ne : ∀ a, a ≠ d → H1 a = H a
  dic : Dic u
  l : Rd H d u
  r : Rd H1 d u
theorem Step.symm {H H1 : Hp} {d : Addr} {u : HO} (s : Step H H1 d u) : Step H1 H d u := ⟨fun a h => (s.ne a h).symm, s.dic, s.r, s.l⟩
theorem Step.at {H H1 : Hp} {d a : Addr} {u o : HO} (s : Step H H1 d u) (h : H a = some o) (n : o ≠ u) (n2 : ∀ x, o ≠ .frz x u) : H1 a = some o := by
  by_cases e : a = d
  · subst e
    rcases s.l with q | ⟨x, q⟩
    · rw [h] at q; exact absurd (Option.some.inj q) n
    · rw [h] at q; exact absurd (Option.some.inj q) (n2 x)
  · rw [s.ne a e]; exact h
theorem Step.rd {H H1 : Hp} {d a : Addr} {u w : HO} (s : Step H H1 d u) (hw : Dic w) (h : Rd H a w) : Rd H1 a w := by
  by_cases e : a = d
  · subst e
    have : u = w := by
      rcases s.l with q | ⟨x, q⟩ <;> rcases h with p | ⟨y, p⟩ <;> rw [q] at p
      · exact Option.some.inj p
      · have := Option.some.inj p
        subst this
        exact s.dic.elim
      · have := Option.some.inj p
        subst this
        exact hw.elim
      · have := Option.some.inj p
        injection this
    subst this
    exact s.r
  · rcases h with p | ⟨y, p⟩
    · exact .inl (by rw [s.ne a e]; exact p)
    · exact .inr ⟨y, by rw [s.ne a e]; exact p⟩
section
variable {K : PySem.W.Frag} {ρ : Rho} {H H1 : Hp} {d : Addr} {u : HO} {S : Sto}
mutual
theorem Rep.step (s : Step H H1 d u) : ∀ {x : D} {v : V}, Rep ρ H x v → Rep ρ H1 x v
  | _, _, .non => .non
  | _, _, .bl b => .bl b
  | _, _, .int i => .int i
  | _, _, .str x => .str x
  | _, _, .tup h n r => .tup (s.at h (fun e => by subst e; exact s.dic.elim) (fun x e => by cases e)) n (RepL.step s r)
  | _, _, .lst h n r => .lst (s.at h (fun e => by subst e; exact s.dic.elim) (fun x e => by cases e)) n (RepL.step s r)
theorem RepL.step (s : Step H H1 d u) : ∀ {xs : List D} {vs : List V}, RepL ρ H xs vs → RepL ρ H1 xs vs
  | _, _, .nil => .nil
  | _, _, .cons r t => .cons (Rep.step s r) (RepL.step s t)
end
theorem RepKV.step {κ : Type} (s : Step H H1 d u) {kvs : List (κ × D)} {us : List (κ × V)} (h : RepKV ρ H kvs us) : RepKV ρ H1 kvs us := by
  induction h with
  | nil => exact .nil
  | cons r _ ih => exact .cons (r.step s) ih
/-- no dict is known to be locked any more -/
def unl : W → W
  | .kd _ kvs => .kd false kvs
  | .td _ kvs => .td false kvs
  | w => w
theorem RelW.step (s : Step H H1 d u) : ∀ {w : W} {v : V}, RelW K ρ H w v → RelW K ρ H1 (unl w) v
  | .d _, _, h => Rep.step s h
  | .loc i, _, h => h
  | .ct _, _, h => h
  | .sc _, _, ⟨a, e1, h⟩ => ⟨a, e1, h.imp (fun ⟨o, h1, h2⟩ => ⟨o, s.at h1 (fun e => by subst e; exact s.dic.elim) (fun x e => by
      injection e with _ e2
      subst e2
      exact s.dic.elim), h2⟩) id⟩
  | .v _, _, h => h
  | .kd _ _, _, ⟨a, us, e1, n, h1, _, h2⟩ => ⟨a, us, e1, n, s.rd trivial h1, fun z => (by cases z), h2.step s⟩
  | .td _ _, _, ⟨a, us, e1, n, h1, _, h2⟩ => ⟨a, us, e1, n, s.rd trivial h1, fun z => (by cases z), h2.step s⟩
def unlE (σ : Env) : Env := σ.map fun o => o.map unl
theorem unlE_get {σ : Env} {i : Nat} {w : W} (h : (unlE σ)[i]? = some (some w)) : ∃ w', σ[i]? = some (some w') ∧ w = unl w' := by
  unfold unlE at h
  rw [List.getElem?_map] at h
  cases e : σ[i]? with
  | none => rw [e] at h; cases h
  | some o =>
    rw [e] at h
    cases o with
    | none => simp at h
    | some w' => simp at h; exact ⟨w', rfl, h.symm⟩
theorem RelE.step {σd : Env} {σ : L2.St} (s : Step H H1 d u) (h : RelE K ρ H σd σ) : RelE K ρ H1 (unlE σd) σ :=
  ⟨by unfold unlE; rw [List.length_map]; exact h.len, fun i w hi => by
    obtain ⟨w', h1, rfl⟩ := unlE_get hi
    obtain ⟨v, h2, h3⟩ := h.get i w' h1
    exact ⟨v, h2, h3.step s⟩⟩
theorem ORel.step (s : Step H H1 d u) {a : Addr} (e : H1 a = H a) : ∀ {o : O}, ORel ρ H a o → ORel ρ H1 a o
  | .lst _, ⟨vs, h1, r⟩ => ⟨vs, e.trans h1, r.step s⟩
  | .dK _, ⟨vs, h1, r⟩ => ⟨vs, e.trans h1, r.step s⟩
  | .dT _, ⟨vs, h1, r⟩ => ⟨vs, e.trans h1, r.step s⟩
  | .dead, h1 => h1
theorem SRel.step (s : Step H H1 d u) (n : ρ.Fr d) (h : SRel ρ H S) : SRel ρ H1 S :=
  ⟨h.len, fun i a e => by
    obtain ⟨o, h1, h2⟩ := h.obj i a e
    have hne : a ≠ d := fun z => n.1 (z ▸ List.mem_of_getElem? e)
    exact ⟨o, h1, h2.step s (s.ne a hne)⟩, h.inj, h.live, fun a ha => by
    obtain ⟨⟨xs, e⟩, m⟩ := h.blk a ha
    have hne : a ≠ d := fun z => n.2 (z ▸ ha)
    exact ⟨⟨xs, by rw [s.ne a hne]; exact e⟩, m⟩⟩
end
/-! ### the lock -/
def lockW : W → Option W
  | .kd _ kvs => some (.kd true kvs)
  | .td _ kvs => some (.td true kvs)
  | _ => none
def unlO : Out → Out
  | .nx σ S => .nx (unlE σ) S
  | .bk σ S => .bk (unlE σ) S
  | .ct σ S => .ct (unlE σ) S
  | .rt w S => .rt (unl w) S
def mLock (i : Nat) (m : MS) : MS := fun σ S => (σ[i]?.bind id).bind fun w => (lockW w).bind fun w' => (m ((unlE σ).set i (some w')) S).map unlO
section
variable {K : PySem.W.Frag} {ρ : Rho} {H H1 : Hp} {d : Addr} {u : HO} {S : Sto}
theorem RelW.unl : ∀ {w : W} {v : V}, RelW K ρ H w v → RelW K ρ H (unl w) v
  | .d _, _, h => h
  | .loc i, _, h => h
  | .ct _, _, h => h
  | .sc _, _, h => h
  | .v _, _, h => h
  | .kd _ _, _, ⟨a, us, e1, n, h1, _, h2⟩ => ⟨a, us, e1, n, h1, fun z => (by cases z), h2⟩
  | .td _ _, _, ⟨a, us, e1, n, h1, _, h2⟩ => ⟨a, us, e1, n, h1, fun z => (by cases z), h2⟩
theorem RelE.unl {σd : Env} {σ : L2.St} (h : RelE K ρ H σd σ) : RelE K ρ H (unlE σd) σ :=
  ⟨by unfold unlE; rw [List.length_map]; exact h.len, fun i w hi => by
    obtain ⟨w', h1, rfl⟩ := unlE_get hi
    obtain ⟨v, h2, h3⟩ := h.get i w' h1
    exact ⟨v, h2, h3.unl⟩⟩
theorem RelE.put {σd : Env} {σ : L2.St} (h : RelE K ρ H σd σ) {i : Nat} {v : V} (e : σ[i]? = some (some v)) {w : W} (r : RelW K ρ H w v) : RelE K ρ H (σd.set i (some w)) σ :=
  ⟨by rw [List.length_set]; exact h.len, fun j w' hj => by
    by_cases g : i = j
    · subst g
      rw [List.getElem?_set] at hj
      simp at hj
      obtain ⟨_, rfl⟩ := hj
      exact ⟨v, e, r⟩
    · rw [List.getElem?_set_ne g] at hj
      exact h.get j w' hj⟩
theorem step_ext {ρ' : Rho} {H' : Hp} (s : Step H H1 d u) (n : ρ.Fr d) (h : H d = some u) (e : Ext ρ H1 ρ' H') {o : Obj} (h1 : H1 d = some (.frz o u)) : Ext ρ H ρ' (upd H' d u) := by
  have hk := e.keep d _ h1 n.1
  refine ⟨fun a w ha na => ?_, e.loc, e.len, fun a ha => ?_, fun a ha => ?_, e.bsub⟩
  · by_cases g : a = d
    · subst g
      rw [h] at ha; cases ha
      exact ⟨upd_same, hk.2⟩
    · rw [upd_ne g]
      exact e.keep a w (by rw [s.ne a g]; exact ha) na
  · by_cases g : a = d
    · subst g; rw [upd_same] at ha; cases ha
    · rw [upd_ne g] at ha
      rw [← s.ne a g]
      exact e.dom a ha
  · rcases e.bnew a ha with z | z
    · exact .inl z
    · by_cases g : a = d
      · subst g; rw [h1] at z; cases z
      · exact .inr (by rw [← s.ne a g]; exact z)
theorem lock_out {D : Ends} {out : Out} {o : Obj} (n : ρ.Fr d) (hd : H d = some u) (dic : Dic u) (q : OutOk K ρ H D (unlO out)) :
    OutOk K ρ (upd H d (.frz o u)) ⟨fun σ' H' => H' d = some (.frz o u) ∧ D.nx σ' (upd H' d u), fun v H' => H' d = some (.frz o u) ∧ D.rt v (upd H' d u), fun σ' H' => H' d = some (.frz o u) ∧ D.bk σ' (upd H' d u), fun σ' H' => H' d = some (.frz o u) ∧ D.ct σ' (upd H' d u)⟩ out := by
  have s0 : Step H (upd H d (.frz o u)) d u := ⟨fun b h => upd_ne h, dic, .inl hd, .inr ⟨o, upd_same⟩⟩
  have go : ∀ {ρ' : Rho} {H' : Hp}, Ext ρ (upd H d (.frz o u)) ρ' H' → H' d = some (.frz o u) ∧ Step H' (upd H' d u) d u ∧ ρ'.Fr d ∧ Ext ρ H ρ' (upd H' d u) := fun {ρ'} {H'} e => by
    have h1 := e.at upd_same n
    exact ⟨h1.1, ⟨fun b h => upd_ne h, dic, .inr ⟨o, h1.1⟩, .inl upd_same⟩, h1.2, step_ext s0 n hd e upd_same⟩
  cases out with
  | nx σo So => exact fun ρ' σ' H' e s r => let ⟨a, b, c, f⟩ := go e; ⟨a, q ρ' σ' _ f (s.step b c) (r.step b)⟩
  | bk σo So => exact fun ρ' σ' H' e s r => let ⟨a, b, c, f⟩ := go e; ⟨a, q ρ' σ' _ f (s.step b c) (r.step b)⟩
  | ct σo So => exact fun ρ' σ' H' e s r => let ⟨a, b, c, f⟩ := go e; ⟨a, q ρ' σ' _ f (s.step b c) (r.step b)⟩
  | rt w So => exact fun ρ' v H' e s r => let ⟨a, b, c, f⟩ := go e; ⟨a, q ρ' v _ f (s.step b c) (r.step b)⟩
theorem unl_out {D : Ends} {out : Out} (q : OutOk K ρ H D (unlO out)) : OutOk K ρ H D out := by
  cases out with
  | nx σo So => exact fun ρ' σ' H' e s r => q ρ' σ' _ e s r.unl
  | bk σo So => exact fun ρ' σ' H' e s r => q ρ' σ' _ e s r.unl
  | ct σo So => exact fun ρ' σ' H' e s r => q ρ' σ' _ e s r.unl
  | rt w So => exact fun ρ' v H' e s r => q ρ' v _ e s r.unl
end
section
variable {X : Cx} {e tg : Expr} {st : Stmt}
theorem d_lock (i : Nat) {m : MS} (h : PDS X st m) : PDS X st (mLock i m) := by
  refine ⟨fun pins s σ H D I hw => ?_⟩
  obtain ⟨ρ, σd, S, out, hs, he, hm, q⟩ := hw
  obtain ⟨w, h1, hm⟩ := Option.bind_eq_some_iff.mp hm
  obtain ⟨w', h2, hm⟩ := Option.bind_eq_some_iff.mp hm
  rw [Option.map_eq_some_iff] at hm
  obtain ⟨out1, h3, rfl⟩ := hm
  have hi : σd[i]? = some (some w) := by
    obtain ⟨o, e1, e2⟩ := Option.bind_eq_some_iff.mp h1
    simp at e2
    rw [e1, e2]
  obtain ⟨v, hv, rw'⟩ := he.get i w hi
  cases w with
  | kd b kvs =>
    cases h2
    obtain ⟨a, us, rfl, n, hr, _, kv⟩ := rw'
    rcases hr with hd | ⟨o, hd⟩
    · refine (ps_lock h).run pins s σ H D I ⟨a, .dK us, hd, trivial, fun od => ?_⟩
      have s0 : Step H (upd H a (.frz od (.dK us))) a (.dK us) := ⟨fun b h => upd_ne h, trivial, .inl hd, .inr ⟨od, upd_same⟩⟩
      exact ⟨ρ, _, S, out1, hs.step s0 n, (he.step s0).put hv (w := .kd true kvs) ⟨a, us, rfl, n, .inr ⟨od, upd_same⟩, fun _ => ⟨od, upd_same⟩, kv.step s0⟩, h3, lock_out n hd trivial q⟩
    · exact h.run pins s σ H D I ⟨ρ, _, S, out1, hs, he.unl.put hv (w := .kd true kvs) ⟨a, us, rfl, n, .inr ⟨o, hd⟩, fun _ => ⟨o, hd⟩, kv⟩, h3, unl_out q⟩
  | td b kvs =>
    cases h2
    obtain ⟨a, us, rfl, n, hr, _, kv⟩ := rw'
    rcases hr with hd | ⟨o, hd⟩
    · refine (ps_lock h).run pins s σ H D I ⟨a, .dT us, hd, trivial, fun od => ?_⟩
      have s0 : Step H (upd H a (.frz od (.dT us))) a (.dT us) := ⟨fun b h => upd_ne h, trivial, .inl hd, .inr ⟨od, upd_same⟩⟩
      exact ⟨ρ, _, S, out1, hs.step s0 n, (he.step s0).put hv (w := .td true kvs) ⟨a, us, rfl, n, .inr ⟨od, upd_same⟩, fun _ => ⟨od, upd_same⟩, kv.step s0⟩, h3, lock_out n hd trivial q⟩
    · exact h.run pins s σ H D I ⟨ρ, _, S, out1, hs, he.unl.put hv (w := .td true kvs) ⟨a, us, rfl, n, .inr ⟨o, hd⟩, fun _ => ⟨o, hd⟩, kv⟩, h3, unl_out q⟩
  | _ => cases h2
/-! ### its keys, one by one -/
def kD : Key → D
  | .inl i => .int i
  | .inr x => .str x
theorem kD_rep {ρ : Rho} {H : Hp} (k : Key) : Rep ρ H (kD k) (kV k) := by
  cases k with
  | inl i => exact .int i
  | inr x => exact .str x
theorem kDs_rep {ρ : Rho} {H : Hp} : ∀ ks : List Key, RepL ρ H (ks.map kD) (ks.map kV)
  | [] => .nil
  | k :: ks => .cons (kD_rep k) (kDs_rep ks)
theorem RepKV.at {κ : Type} {ρ : Rho} {H : Hp} {kvs : List (κ × D)} {us : List (κ × V)} (h : RepKV ρ H kvs us) : ∀ {i : Nat} {k : κ} {d : D}, kvs[i]? = some (k, d) → ∃ v, us[i]? = some (k, v) := by
  induction h with
  | nil => intro i k d e; simp at e
  | cons r _ ih =>
    intro i k d e
    cases i with
    | zero => simp at e; exact ⟨_, by simp [e.1]; rfl⟩
    | succ i => simpa using ih (by simpa using e)
def keysOf : W → Option (List D)
  | .kd true kvs => some (kvs.map fun kv => kD kv.1)
  | .td true kvs => some (kvs.map fun kv => .tuple (kv.1.map kD))
  | _ => none
@[simp] def iK (m : ME) : MI := fun σ S => (m σ S).bind fun r => (keysOf r.1).map fun ds => (ds, r.2)
theorem di_keys {m : ME} (he : PD X e m) : PDI X tg e (iK m) := piImp (pi_keys he) fun σ H R ⟨ρ, σd, S, ds, S', hs, hE, hm, q⟩ => by
  obtain ⟨⟨w1, S1⟩, h1, hm⟩ := Option.bind_eq_some_iff.mp hm
  rw [Option.map_eq_some_iff] at hm
  obtain ⟨ds', h2, h3⟩ := hm
  cases h3
  refine ⟨ρ, σd, S, w1, S1, hs, hE, h1, fun ρ1 v H1 e1 s1 r1 => ?_⟩
  dsimp only at h2
  unfold keysOf at h2
  split at h2
  · rename_i kvs
    cases h2
    obtain ⟨a, us, rfl, n, _, hb, kv⟩ := r1
    obtain ⟨o, ho⟩ := hb rfl
    refine ⟨a, o, rfl, .inl ⟨us, ho, q ρ1 _ H1 e1 s1 fun ρ2 H2 S2 e2 s2 i => ?_⟩⟩
    have h4 := (e2.at ho n).1
    have hl := kv.length
    refine ⟨fun hle => ⟨h4, by simp at hle; omega⟩, fun d hd => ?_⟩
    rw [List.getElem?_map, Option.map_eq_some_iff] at hd
    obtain ⟨⟨k, x⟩, hk, rfl⟩ := hd
    obtain ⟨v, hv⟩ := kv.at hk
    refine ⟨⟨h4, (List.getElem?_eq_some_iff.mp hv).1⟩, ?_⟩
    rintro x' H' ⟨rfl, k', v', e5, rfl⟩
    rw [hv] at e5
    cases e5
    exact ⟨Gr.refl, kD_rep k⟩
  · rename_i kvs
    cases h2
    obtain ⟨a, us, rfl, n, _, hb, kv⟩ := r1
    obtain ⟨o, ho⟩ := hb rfl
    refine ⟨a, o, rfl, .inr ⟨us, ho, q ρ1 _ H1 e1 s1 fun ρ2 H2 S2 e2 s2 i => ?_⟩⟩
    have h4 := (e2.at ho n).1
    have hl := kv.length
    refine ⟨fun hle => ⟨h4, by simp at hle; omega⟩, fun d hd => ?_⟩
    rw [List.getElem?_map, Option.map_eq_some_iff] at hd
    obtain ⟨⟨k, x⟩, hk, rfl⟩ := hd
    obtain ⟨v, hv⟩ := kv.at hk
    refine ⟨⟨h4, (List.getElem?_eq_some_iff.mp hv).1⟩, ?_⟩
    rintro x' H' ⟨rfl, k', v', t, e5, rfl, ht⟩
    rw [hv] at e5
    cases e5
    refine ⟨Gr.refl, .tup ht ⟨fun z => ?_, fun z => ?_⟩ (kDs_rep k)⟩
    · obtain ⟨i', hi'⟩ := List.getElem?_of_mem z
      obtain ⟨o', _, h6⟩ := s2.obj i' t hi'
      cases o' with
      | lst _ => obtain ⟨_, h7, _⟩ := h6; rw [ht] at h7; cases h7
      | dK _ => obtain ⟨_, h7, _⟩ := h6; rw [ht] at h7; cases h7
      | dT _ => obtain ⟨_, h7, _⟩ := h6; rw [ht] at h7; cases h7
      | dead => exact h6
    · obtain ⟨⟨xs, h7⟩, _⟩ := s2.blk t z
      rw [ht] at h7; cases h7
  · cases h2
/-! ### a list or a tuple -/
def asS (w : W) : Option (List D) := match asP w with
  | some ds => some ds
  | none => asT w
@[simp] def iS (m : ME) : MI := fun σ S => (m σ S).bind fun r => (asS r.1).map fun ds => (ds, r.2)
theorem di_seq {m : ME} (he : PD X e m) : PDI X tg e (iS m) := by
  refine ⟨fun pins s σ H R I hw => ?_⟩
  obtain ⟨ρ, σd, S, ds, S', hs, hE, hm, q⟩ := hw
  obtain ⟨⟨w1, S1⟩, h1, hm⟩ := Option.bind_eq_some_iff.mp hm
  rw [Option.map_eq_some_iff] at hm
  obtain ⟨ds', h2, h3⟩ := hm
  cases h3
  unfold asS at h2
  split at h2
  · rename_i h4
    cases h2
    exact (di_list he).run pins s σ H R I ⟨ρ, σd, S, ds, S1, hs, hE, by simp only [iL, h1, Option.bind_some, h4, Option.map_some], q⟩
  · exact (di_tup he).run pins s σ H R I ⟨ρ, σd, S, ds, S1, hs, hE, by simp only [iT, h1, Option.bind_some, h2, Option.map_some], q⟩
end
/-! ### a list unpacked -/
def gLstU (n : Nat) (r : MGs) : MG := fun w σ => (asP w).bind fun ds => if decide (ds.length = n) = true then r ds σ else none
section
variable {X : Cx} {es : List Expr} {pos : Pos}
theorem dg_lst {k : Nat} {n : Nat} {r : MGs} (hc : X.calm = true) (h : PDGs X es r) (hn : (assignEach es X.env).length = n := by rfl) (hst : (assignEach es X.env).findIdx? (·.1) = none := by rfl) : PDG X (.Tuple es k pos) (gLstU n r) :=
  pgImp (pg_unl hc h hn hst) fun v σ H Q ⟨ρ, σd, S, w, σ1, hs, he, rr, hg, q⟩ => by
    obtain ⟨ds, h1, h2⟩ := Option.bind_eq_some_iff.mp hg
    obtain ⟨a, vs, rfl, ht, hr⟩ := asP_rel rr h1
    split at h2
    · rename_i hl
      exact ⟨a, vs, rfl, ht ρ H .refl, by rw [← hr.length]; exact of_decide_eq_true hl, ρ, σd, S, ds, σ1, hs, he, hr, h2, q⟩
    · cases h2
end
end DL

set_option Elab.async false
set_option linter.all false
set_option maxRecDepth 100000
set_option autoImplicit false
/-! The data layer, 8: what a printed text leans on. -/
noncomputable section
namespace DL
open PySem PySem.Spec PyProof.Rows L2

theorem u65 {k : Nat} {A : Around} (r : Room k A) : A.units + 65 < cLine := by have := r.un; omega
theorem u66 {k : Nat} {A : Around} (r : Room k A) : A.units + 66 < cLine := by have := r.un; omega
theorem b_abs : bootBuiltins "abs" = some (.builtin "abs") := by decide +kernel
theorem b_all : bootBuiltins "all" = some (.builtin "all") := by decide +kernel
theorem b_any : bootBuiltins "any" = some (.builtin "any") := by decide +kernel
theorem b_len : bootBuiltins "len" = some (.builtin "len") := by decide +kernel
theorem b_max : bootBuiltins "max" = some (.builtin "max") := by decide +kernel
theorem b_min : bootBuiltins "min" = some (.builtin "min") := by decide +kernel
theorem b_sum : bootBuiltins "sum" = some (.builtin "sum") := by decide +kernel
theorem b_repr : bootBuiltins "repr" = some (.builtin "repr") := by decide +kernel
theorem b_sorted : bootBuiltins "sorted" = some (.builtin "sorted") := by decide +kernel
theorem b_isinstance : bootBuiltins "isinstance" = some (.builtin "isinstance") := by decide +kernel
theorem b_int : bootBuiltins "int" = some (.type "int") := by decide +kernel
theorem b_bool : bootBuiltins "bool" = some (.type "bool") := by decide +kernel
theorem b_str : bootBuiltins "str" = some (.type "str") := by decide +kernel
theorem b_list : bootBuiltins "list" = some (.type "list") := by decide +kernel
theorem b_tuple : bootBuiltins "tuple" = some (.type "tuple") := by decide +kernel
theorem b_dict : bootBuiltins "dict" = some (.type "dict") := by decide +kernel
theorem b_set : bootBuiltins "set" = some (.type "set") := by decide +kernel

/-- a constant of the top -/
def Glb (K : PySem.W.Frag) (mg : Str → Option Value) (x : Str) (w : W) : Prop := ∃ v u, mg x = some u ∧ RelV v u ∧ ∀ ρ H, RelW K ρ H w v
theorem Glb.int {K : PySem.W.Frag} {mg : Str → Option Value} {x : Str} {i : Int} (h : ∃ t, mg x = some (.int i t)) : Glb K mg x (.d (.int i)) :=
  let ⟨t, e⟩ := h; ⟨.int i, _, e, ⟨t, rfl⟩, fun _ _ => .int i⟩
theorem Glb.str {K : PySem.W.Frag} {mg : Str → Option Value} {x : Str} {i : Str} (h : ∃ t, mg x = some (.str i t)) : Glb K mg x (.d (.str i)) :=
  let ⟨t, e⟩ := h; ⟨.str i, _, e, ⟨t, rfl⟩, fun _ _ => .str i⟩
theorem Glb.tup {K : PySem.W.Frag} {mg : Str → Option Value} {x : Str} {a : Addr} {vs : List V} {ds : List D} (h : mg x = some (.ref a)) (q : ∀ H, SqT K H a vs) (f : FlatL ds vs) : Glb K mg x (.ct ds) :=
  ⟨.ref a, _, h, rfl, fun _ _ => ⟨a, vs, rfl, q, f⟩⟩
theorem Glb.name {X : Cx} {x : Str} {w : W} {pos : Pos} (h : Glb X.K X.mg x w) (hg : Gl X x) (hd : (x == ("__debug__" : Str)) = false := by decide) : PD X (.Name x pos) (mC w) :=
  let ⟨_, _, e, r, rw'⟩ := h
  d_glob hg e r rw' hd

/-- a def of the top that is called by its name -/
structure Cal (P : Program) (w : World) (K : PySem.W.Frag) (mg : Str → Option Value) (base : Heap) (k : Nat) (x : Str) (n : Nat) (g : Fn) : Prop where
  ex : ∃ (f : Addr) (fd : FuncData) (ps : List Str), FnG P w K mg base CX0 k f fd ps (spD K n g) ∧ mg x = some (.ref f) ∧ PySem.W.keepIn K (.ref f) = true ∧ Binds K fd ps [] ∧ ps.length = n
/-- .. by keywords -/
structure CalK (P : Program) (w : World) (K : PySem.W.Frag) (mg : Str → Option Value) (base : Heap) (k : Nat) (x : Str) (n : Nat) (g : Fn) (ks : List Str) (is : List Nat) : Prop where
  ex : ∃ (f : Addr) (fd : FuncData) (ps : List Str), FnG P w K mg base CX0 k f fd ps (spD K n g) ∧ mg x = some (.ref f) ∧ PySem.W.keepIn K (.ref f) = true ∧ ps.length = n ∧
    ∀ (s : Shared) (ws : List Value), (permL is ws).length = ps.length → BindsTo s fd ⟨[], ks.zip ws⟩ (ps.zip (permL is ws))
section
variable {P : Program} {w : World} {K : PySem.W.Frag} {mg : Str → Option Value} {base : Heap} {k n : Nat} {x : Str} {g : Fn} {st : Stmt} {f : Addr} {fd : FuncData} {N ps : List Str} {b : MS}
theorem fn_mk {n : Nat} (F : FunD K x x (defArgs st) (defBody st) (defScope st) [] [] f fd) (S : FnScope N ps (defScope st)) (hn : ps.length = n) {m : Nat} (hN : N.length = m)
    (h : ∀ (cdv : Value) (A : Around) (outer : List PySem.Env) (s : Shared) (H : Hp) (E : XK), (cxOf CX0 P w K mg base N x (defScope st) f cdv A outer s H E).nox.A.guards = some [] → Room k (cxOf CX0 P w K mg base N x (defScope st) f cdv A outer s H E).nox.A →
      PDSs (cxOf CX0 P w K mg base N x (defScope st) f cdv A outer s H E).nox (defBody st) b) : FnG P w K mg base CX0 (k + 1) f fd ps (spD K n (fnD m b)) := by
  subst hn hN
  exact fn_okG F S fun cdv A outer s H E hg hr => h cdv A outer s H E hg hr
theorem fn_never : FnG P w K mg base CX0 k f fd ps (spD K n (fun _ _ => none)) := FnG.never fun vs H Q E => spD_none
theorem Cal.of (F : FunD K x x (defArgs st) (defBody st) (defScope st) [] [] f fd) (hm : mg x = some (.ref f)) (G : FnG P w K mg base CX0 k f fd ps (spD K n g)) (hn : ps.length = n)
    (hb : ∀ (kV doc pm : Value) (an : Option Addr) (cdv ct : Value) (us : List Value), us.length = ps.length → bindArgs (PySem.W.fnOf x x (defArgs st) (defBody st) (defScope st) .none kV doc pm an cdv ct) ⟨us, []⟩ = pure (ps.zip us)) : Cal P w K mg base k x n g :=
  ⟨f, fd, ps, G, hm, F.kp, F.bindsN hb, hn⟩
theorem CalK.of {ks : List Str} {is : List Nat} (F : FunD K x x (defArgs st) (defBody st) (defScope st) [] [] f fd) (hm : mg x = some (.ref f)) (G : FnG P w K mg base CX0 k f fd ps (spD K n g)) (hn : ps.length = n)
    (hb : ∀ (kV doc pm : Value) (an : Option Addr) (cdv ct : Value) (ws : List Value), (permL is ws).length = ps.length → bindArgs (PySem.W.fnOf x x (defArgs st) (defBody st) (defScope st) .none kV doc pm an cdv ct) ⟨[], ks.zip ws⟩ = pure (ps.zip (permL is ws))) :
    CalK P w K mg base k x n g ks is := by
  obtain ⟨oc, od, dV, kV, doc, pm, an, cdv, ct, osl, rfl, lk, hcd, hD, _⟩ := F.ex
  rcases hD with ⟨_, rfl⟩ | ⟨e, _⟩
  · exact ⟨f, _, ps, G, hm, F.kp, hn, fun s ws hl => .of_eq (hb kV doc pm an cdv ct ws hl)⟩
  · exact absurd rfl e
end
section
variable {X : Cx} {k n : Nat} {x : Str} {g : Fn} {p pos : Pos} {e : Expr} {es : List Expr} {m : MA}
theorem Cal.call (C : Cal X.prog X.w X.K X.mg X.base k x n g) (hG : X.A.guards = some []) (hr : Room k X.A) (hg : Gl X x) (ha : PDA X (e :: es) m)
    (hdb : (x == ("__debug__" : Str)) = false := by decide) (he : starEach (e :: es) X.env = (false, eval e X.env) :: starEach es X.env := by rfl) (hpl : (backTo pos (starEach es X.env)).any (·.1) = false := by rfl) :
    PD X (.Call (.Name x p) (e :: es) [] pos) (mCallF n g m) :=
  let ⟨_, _, _, F, hm, hk, hb, _⟩ := C.ex
  d_call F hG hr hg hm hk hb ha hdb he hpl
theorem Cal.call0 (C : Cal X.prog X.w X.K X.mg X.base k x n g) (hG : X.A.guards = some []) (hr : Room k X.A) (hg : Gl X x) (hdb : (x == ("__debug__" : Str)) = false := by decide) : PD X (.Call (.Name x p) [] [] pos) (mCallF n g mNil) :=
  let ⟨_, _, _, F, hm, hk, hb, _⟩ := C.ex
  d_call0 F hG hr hg hm hk hb hdb
theorem CalK.callK {kws : List Keyword} {ks : List Str} {is : List Nat} (C : CalK X.prog X.w X.K X.mg X.base k x n g ks is) (hG : X.A.guards = some []) (hr : Room k X.A) (hg : Gl X x)
    (ha : PDK X kws m) (hall : (backToKw pos (keywordEach kws X.env)).all (·.1.isSome) = true := by rfl) (hks : (backToKw pos (keywordEach kws X.env)).filterMap (·.1) = ks := by rfl) (hdb : (x == ("__debug__" : Str)) = false := by decide)
    (hpl : ((backTo pos (starEach [] X.env)).any (·.1) || (backToKw pos (keywordEach kws X.env)).any (·.1.isNone)) = false := by rfl) : PD X (.Call (.Name x p) [] kws pos) (mCallK is n g m) :=
  let ⟨_, _, _, F, hm, hk, _, hb⟩ := C.ex
  d_callK is F hG hr hg hm hk hb ha hall hks hdb hpl
end
end DL

set_option Elab.async false
set_option linter.all false
set_option maxRecDepth 100000
set_option autoImplicit false
/-! The data layer, what it computes: how the combinators reduce; the three defs that every law of this program opens with. -/
noncomputable section
namespace DL
open PySem PySem.Spec PyProof.Rows L2
section
variable (S : Sto) (i j : Int)
@[simp] theorem add_int : vAdd S (.d (.int i)) (.d (.int j)) = some (.d (.int (i + j))) := rfl
@[simp] theorem sub_int : vSub S (.d (.int i)) (.d (.int j)) = some (.d (.int (i - j))) := rfl
@[simp] theorem neg_int : vNeg S (.d (.int i)) = some (.d (.int (-i))) := rfl
@[simp] theorem mul_int : vMul S (.d (.int i)) (.d (.int j)) = if mulOk i j = true then some (.d (.int (i * j))) else none := rfl
@[simp] theorem fdiv_int : vFdiv S (.d (.int i)) (.d (.int j)) = if divOk j = true then some (.d (.int (i / j))) else none := rfl
theorem divOk_of {j : Int} (h1 : 0 < j) (h2 : j < 18446744073709551616) : divOk j = true := says_true ⟨h1, h2⟩
@[simp] theorem mod_int : vMod S (.d (.int i)) (.d (.int j)) = if 0 < j then some (.d (.int (i % j))) else none := by simp [vMod]
@[simp] theorem pow_int : vPow S (.d (.int i)) (.d (.int j)) = if powOk i j = true then some (.d (.int (i ^ j.toNat))) else none := rfl
@[simp] theorem cmp_int (f : Int → Int → Bool) : vCmp f S (.d (.int i)) (.d (.int j)) = some (.d (.bool (f i j))) := rfl
@[simp] theorem int22 (f : Int → Int → Int) : vInt22 f S (.d (.int i)) (.d (.int j)) = some (.d (.int (f i j))) := rfl
@[simp] theorem int2_int (f : Int → Int → Int) : vInt2 f S (.d (.int i)) (.d (.int j)) = some (.d (.int (f i j))) := rfl
theorem mulOk_l {i j : Int} (h1 : -18446744073709551616 < i) (h2 : i < 18446744073709551616) : mulOk i j = true := by unfold mulOk; simp [says_iff, h1, h2]
theorem mulOk_r {i j : Int} (h1 : -18446744073709551616 < j) (h2 : j < 18446744073709551616) : mulOk i j = true := by unfold mulOk; simp [says_iff, h1, h2]
theorem powOk_s {i j : Int} (h0 : 0 ≤ j) (h1 : j ≤ 1000000) (h2 : i.natAbs < 18446744073709551616) : powOk i j = true := by unfold powOk; simp [says_iff, h0, h1, h2]
end
@[simp] theorem eq_int (S : Sto) (i j : Int) : vEq S (.d (.int i)) (.d (.int j)) = some (.d (.bool (decide (i = j)))) := by
  have e : PyData.eqv (.int i) (.int j) = decide (i = j) := by first | rfl | simp [PyData.eqv]
  have h : ∀ i : Int, SeqAt.shaped (.int i) = true := fun i => by first | rfl | decide
  simp [vEq, strs2, asD, h, e]
@[simp] theorem ne_int (S : Sto) (i j : Int) : vNe S (.d (.int i)) (.d (.int j)) = some (.d (.bool (!decide (i = j)))) := by
  have e : PyData.eqv (.int i) (.int j) = decide (i = j) := by first | rfl | simp [PyData.eqv]
  have h : ∀ i : Int, SeqAt.shaped (.int i) = true := fun i => by first | rfl | decide
  simp [vNe, strs2, asD, h, e]
@[simp] theorem asL_d (S : Sto) (xs : List D) : asL S (.d (.list xs)) = some xs := rfl
@[simp] theorem asL_sc (S : Sto) (ns : List Int) : asL S (.sc ns) = some (ns.map PyData.int) := rfl
@[simp] theorem asL_loc (S : Sto) (i : Nat) : asL S (.loc i) = (S[i]?.bind fun o => match o with | .lst xs => some xs | _ => none) := by
  cases h : S[i]? with
  | none => simp [asL, h]
  | some o => cases o <;> simp [asL, h]
theorem loc_lst {S : Sto} {i : Nat} {xs : List D} (h : S[i]? = some (.lst xs)) : asL S (.loc i) = some xs := by simp [h]
@[simp] theorem seqOf_d (S : Sto) (xs : List D) : seqOf S (.d (.list xs)) = some xs := rfl
@[simp] theorem seqOf_t (S : Sto) (xs : List D) : seqOf S (.d (.tuple xs)) = some xs := rfl
@[simp] theorem seqOf_ct (S : Sto) (xs : List D) : seqOf S (.ct xs) = some xs := rfl
@[simp] theorem seqOf_sc (S : Sto) (ns : List Int) : seqOf S (.sc ns) = some (ns.map PyData.int) := rfl
@[simp] theorem seqOf_loc (S : Sto) (i : Nat) : seqOf S (.loc i) = asL S (.loc i) := rfl
@[simp] theorem len_seq (S : Sto) (xs : List D) : vLen S (.d (.list xs)) = some (.d (.int xs.length)) := rfl
@[simp] theorem len_tup (S : Sto) (xs : List D) : vLen S (.d (.tuple xs)) = some (.d (.int xs.length)) := rfl
@[simp] theorem len_ct (S : Sto) (xs : List D) : vLen S (.ct xs) = some (.d (.int xs.length)) := rfl
@[simp] theorem len_sc (S : Sto) (ns : List Int) : vLen S (.sc ns) = some (.d (.int ns.length)) := by simp [vLen]
@[simp] theorem len_loc (S : Sto) (i : Nat) : vLen S (.loc i) = (asL S (.loc i)).map fun ds => .d (.int ds.length) := rfl
@[simp] theorem intsOf_nil : intsOf [] = some [] := rfl
@[simp] theorem intsOf_cons (i : Int) (ds : List D) : intsOf (.int i :: ds) = (intsOf ds).map fun ns => i :: ns := rfl
@[simp] theorem boolsOf_nil : boolsOf [] = some [] := rfl
@[simp] theorem boolsOf_cons (i : Bool) (ds : List D) : boolsOf (.bool i :: ds) = (boolsOf ds).map fun ns => i :: ns := rfl
@[simp] theorem ix_list (S : Sto) (xs : List D) (i : Int) : vIx S (.d (.list xs)) (.d (.int i)) = (atI xs i).map W.d := rfl
@[simp] theorem ix_tup (S : Sto) (xs : List D) (i : Int) : vIx S (.d (.tuple xs)) (.d (.int i)) = (atI xs i).map W.d := rfl
@[simp] theorem ix_ct (S : Sto) (xs : List D) (i : Int) : vIx S (.ct xs) (.d (.int i)) = (atI xs i).map W.d := rfl
@[simp] theorem ix_sc (S : Sto) (ns : List Int) (i : Int) : vIx S (.sc ns) (.d (.int i)) = (atI (ns.map PyData.int) i).map W.d := rfl
@[simp] theorem ix_loc (S : Sto) (n : Nat) (i : Int) : vIx S (.loc n) (.d (.int i)) = (asL S (.loc n)).bind fun ds => (atI ds i).map W.d := by
  unfold vIx
  cases h : asL S (.loc n) <;> simp
theorem ixN_pos {n : Nat} {i : Int} (h0 : 0 ≤ i) (h : i < n) : ixN n i = some i.toNat := by simp [ixN, h0, h]
theorem ixN_neg {n : Nat} {i : Int} (h0 : i < 0) (h : -(n : Int) ≤ i) : ixN n i = some (i + n).toNat := by
  have : ¬ 0 ≤ i := by omega
  simp [ixN, this, h]
theorem atI_pos {α : Type} {xs : List α} {i : Int} (h0 : 0 ≤ i) (h : i < xs.length) : atI xs i = xs[i.toNat]? := by unfold atI; rw [ixN_pos h0 h]; rfl
theorem atI_nat {α : Type} {xs : List α} {n : Nat} (h : n < xs.length) : atI xs (n : Int) = xs[n]? := by rw [atI_pos (by omega) (by omega)]; simp
theorem atI_last {α : Type} {xs : List α} (h : xs ≠ []) : atI xs (-1) = xs.getLast? := by
  have hl : 0 < xs.length := List.length_pos_iff.mpr h
  unfold atI
  rw [ixN_neg (by omega) (by omega)]
  have : ((-1 : Int) + (xs.length : Int)).toNat = xs.length - 1 := by omega
  simp [List.getLast?_eq_getElem?, this]
@[simp] theorem set_last {α : Type} (S : List α) (a b : α) : (S ++ [a]).set S.length b = S ++ [b] := by simp
@[simp] theorem trim_d (n : Nat) (d : D) (S : Sto) : trim n (.d d) S = (.d d, S.take n) := rfl
@[simp] theorem take_set_len {α : Type} (S : List α) (n : Nat) (o : α) : (S.set n o).take S.length = S.set n o := List.take_of_length_le (by simp)
theorem trim_new (S : Sto) (o : O) : trim S.length (.loc S.length) (S ++ [o]) = (.loc S.length, S ++ [o]) := by simp [trim]
theorem trim_at (S T : Sto) (i : Nat) (o : O) (h : S.length ≤ i) (hT : T[i]? = some o) : trim S.length (.loc i) T = (.loc S.length, T.take S.length ++ [o]) := by simp [trim, h, hT]
/-! ### the three defs that every law here opens with -/
def bPotA (k2 k3 k4 k5 k6 : Int) : MS := mSeq (mAsg 2 (mIf (mB (mBin vLt (mVar 1) (mCall (pure1 vLen) (mCons (mVar 0) (mNil))))) (mBin vIx (mVar 0) (mVar 1)) (mBin vAdd (mBin vAdd (mBin vMod (mCall (pure1 vSum) (mCons (mCut (mVar 0) (mNoP) (mP (mInt 1))) (mNil))) (mInt 1000003)) (mBin vMul (mInt k2) (mVar 1))) (mInt k3)))) (mSeq (mAsg 3 (mBin vMul (mBin vMod (mCall (pure1 vInt) (mCons (mCall (pure1 (vInt1 absI)) (mCons (mVar 2) (mNil))) (mNil))) (mBin vPow (mBin vPow (mInt 10) (mInt 60)) (mInt 5))) (mCall (pure1 vInt) (mCons (mBin vGe (mCall (pure1 (vInt1 absI)) (mCons (mVar 2) (mNil))) (mBin vPow (mInt 10) (mInt 18))) (mNil))))) (mSeq (mAsg 4 (mBin vMod (mCall (pure1 vInt) (mCons (mVar 2) (mNil))) (mInt 2305843009213693951))) (mRet (mNew (mCons (mVar 3) (mCons (mBin vMod (mCall (pure1 vInt) (mCons (mBin vAdd (mBin vAdd (mBin vMul (mVar 4) (mInt k4)) (mBin vMul (mBin vMul (mInt k5) (mVar 1)) (mVar 1))) (mInt k6)) (mNil))) (mInt 2305843009213693921)) (mCons (mInt 0) (mNil))))))))
def bPotB (k2 k3 k4 k5 k6 : Int) : MS := mSeq (mAsg 2 (mIf (mB (mBin vLt (mVar 1) (mCall (pure1 vLen) (mCons (mVar 0) (mNil))))) (mBin vIx (mVar 0) (mVar 1)) (mBin vAdd (mBin vMul (mInt k2) (mVar 1)) (mInt k3)))) (mSeq (mAsg 3 (mBin vMul (mBin vMod (mCall (pure1 vInt) (mCons (mCall (pure1 (vInt1 absI)) (mCons (mVar 2) (mNil))) (mNil))) (mBin vPow (mBin vPow (mInt 10) (mInt 60)) (mInt 5))) (mCall (pure1 vInt) (mCons (mBin vGe (mCall (pure1 (vInt1 absI)) (mCons (mVar 2) (mNil))) (mBin vPow (mInt 10) (mInt 18))) (mNil))))) (mSeq (mAsg 4 (mBin vMod (mCall (pure1 vInt) (mCons (mVar 2) (mNil))) (mInt 2305843009213693951))) (mRet (mNew (mCons (mVar 3) (mCons (mBin vMod (mCall (pure1 vInt) (mCons (mBin vAdd (mBin vAdd (mBin vMul (mVar 4) (mInt k4)) (mBin vMul (mBin vMul (mInt k5) (mVar 1)) (mVar 1))) (mInt k6)) (mNil))) (mInt 2305843009213693921)) (mCons (mInt 0) (mNil))))))))
def bTakeA (k1 k2 k3 k4 k5 : Int) : MS := mSeq (mIfS (mB (mBin vGt (mBin vIx (mVar 0) (mInt 0)) (mInt 0))) (mSeq (mAsg 2 (mBin vMod (mCall (pure1 vInt) (mCons (mBin vIx (mVar 0) (mInt 0)) (mNil))) (mVar 1))) (mSeq (mSetI vSetI (mVar 0) (mInt 0) (mBin vFdiv (mBin vIx (mVar 0) (mInt 0)) (mVar 1))) (mRet (mVar 2)))) (mSkip)) (mSeq (mSetI vSetI (mVar 0) (mInt 2) (mBin vAdd (mBin vIx (mVar 0) (mInt 2)) (mInt 1))) (mSeq (mAsg 3 (mBin vIx (mLst (mCons (mInt 2147483647) (mCons (mInt 2147483629) (mCons (mInt 2147483587) (mCons (mInt 2147483579) (mCons (mInt 2147483563) (mNil))))))) (mBin vMod (mCall (pure1 vInt) (mCons (mBin vIx (mVar 0) (mInt 2)) (mNil))) (mInt 5)))) (mSeq (mAsg 4 (mBin vMod (mCall (pure1 vInt) (mCons (mBin vPow (mCall (pure1 vInt) (mCons (mBin vAdd (mBin vAdd (mBin vIx (mVar 0) (mInt 1)) (mBin vMul (mBin vMul (mInt k1) (mBin vIx (mVar 0) (mInt 2))) (mBin vIx (mVar 0) (mInt 2)))) (mInt k2)) (mNil))) (mInt 3)) (mNil))) (mVar 3))) (mSeq (mAsg 4 (mBin vMod (mCall (pure1 vInt) (mCons (mBin vMul (mVar 4) (mBin vAdd (mBin vMod (mCall (pure1 vInt) (mCons (mVar 4) (mNil))) (mInt k3)) (mBin vMul (mInt k4) (mBin vIx (mVar 0) (mInt 2))))) (mNil))) (mInt 2305843009213693907))) (mRet (mBin vMod (mCall (pure1 vInt) (mCons (mBin vFdiv (mVar 4) (mInt k5)) (mNil))) (mVar 1)))))))
def bTakeB (k1 k2 k3 k4 k5 : Int) : MS := mSeq (mIfS (mB (mBin vGt (mBin vIx (mVar 0) (mInt 0)) (mInt 0))) (mSeq (mAsg 2 (mBin vMod (mCall (pure1 vInt) (mCons (mBin vIx (mVar 0) (mInt 0)) (mNil))) (mVar 1))) (mSeq (mSetI vSetI (mVar 0) (mInt 0) (mBin vFdiv (mBin vIx (mVar 0) (mInt 0)) (mVar 1))) (mRet (mVar 2)))) (mSkip)) (mSeq (mSetI vSetI (mVar 0) (mInt 2) (mBin vAdd (mBin vIx (mVar 0) (mInt 2)) (mInt 1))) (mSeq (mAsg 3 (mBin vIx (mLst (mCons (mInt 2147483647) (mCons (mInt 2147483629) (mCons (mInt 2147483587) (mCons (mInt 2147483579) (mCons (mInt 2147483563) (mNil))))))) (mBin vMod (mCall (pure1 vInt) (mCons (mBin vIx (mVar 0) (mInt 2)) (mNil))) (mInt 5)))) (mSeq (mAsg 4 (mBin vMod (mCall (pure1 vInt) (mCons (mBin vPow (mBin vAdd (mBin vAdd (mBin vIx (mVar 0) (mInt 1)) (mBin vMul (mBin vMul (mInt k1) (mBin vIx (mVar 0) (mInt 2))) (mBin vIx (mVar 0) (mInt 2)))) (mInt k2)) (mInt 3)) (mNil))) (mVar 3))) (mSeq (mAsg 4 (mBin vMod (mCall (pure1 vInt) (mCons (mBin vMul (mVar 4) (mBin vAdd (mBin vMod (mCall (pure1 vInt) (mCons (mVar 4) (mNil))) (mInt k3)) (mBin vMul (mInt k4) (mBin vIx (mVar 0) (mInt 2))))) (mNil))) (mInt 2305843009213693907))) (mRet (mBin vMod (mCall (pure1 vInt) (mCons (mBin vFdiv (mVar 4) (mInt k5)) (mNil))) (mVar 1)))))))
def bCells : MS := mRet (mListR (rg1 (mCall (pure2 (vInt22 maxI)) (mCons (mInt 1) (mCons (mCall (pure2 (vInt22 minI)) (mCons (mVar 1) (mCons (mCall (pure1 vLen) (mCons (mVar 0) (mNil))) (mNil)))) (mNil))))))
/-- what a pot is -/
def Pot (k : Int) (o : O) : Prop := ∃ a b c : Int, o = .lst [.int a, .int b, .int c] ∧ 0 ≤ b ∧ b < 2305843009213693951 ∧ 0 ≤ c ∧ c ≤ k
theorem Pot.mono {k k' : Int} {o : O} (h : Pot k o) (l : k ≤ k') : Pot k' o := by
  obtain ⟨a, b, c, e, h1, h2, h3, h4⟩ := h
  exact ⟨a, b, c, e, h1, h2, h3, by omega⟩
theorem absI_nonneg (c : Int) : 0 ≤ absI c := by unfold absI; split <;> omega
theorem powOk_b {i j : Int} (h0 : 0 ≤ j) (h : decide ((Builtin.Int.intBits i : Int) * j ≤ 134217728) = true) : powOk i j = true := by unfold powOk; simp only [Bool.and_eq_true, Bool.or_eq_true, says_iff]; exact ⟨h0, .inr (of_decide_eq_true h)⟩
theorem pow_ten60 : powOk 10 60 = true := powOk_s (by decide) (by decide) (by decide)
theorem pow_own : powOk 1000000000000000000000000000000000000000000000000000000000000 5 = true := powOk_b (by decide) (by decide +kernel)
theorem pow_18 : powOk 10 18 = true := powOk_s (by decide) (by decide) (by decide)
def FnPot (f : Fn) : Prop := ∀ (ns : List Int) (place : Int) (S : Sto), 0 ≤ place → place < 1000 → ∃ o, f [.sc ns, .d (.int place)] S = some (.loc S.length, S ++ [o]) ∧ Pot 0 o
theorem pot_tail (k2 k3 k4 k5 k6 place : Int) (h4 : -10000000 < k4 ∧ k4 < 10000000) (h5 : -10000000 < k5 ∧ k5 < 10000000) (ns : List Int) (S : Sto) (h0 : 0 ≤ place) (h1 : place < 1000) (m : ME) (cell : Int)
    (hm : m [some (.sc ns), some (.d (.int place)), none, none, none] S = some (.d (.int cell), S)) :
    ∃ o, fnD 5 (mSeq (mAsg 2 m) (mSeq (mAsg 3 (mBin vMul (mBin vMod (mCall (pure1 vInt) (mCons (mCall (pure1 (vInt1 absI)) (mCons (mVar 2) (mNil))) (mNil))) (mBin vPow (mBin vPow (mInt 10) (mInt 60)) (mInt 5))) (mCall (pure1 vInt) (mCons (mBin vGe (mCall (pure1 (vInt1 absI)) (mCons (mVar 2) (mNil))) (mBin vPow (mInt 10) (mInt 18))) (mNil))))) (mSeq (mAsg 4 (mBin vMod (mCall (pure1 vInt) (mCons (mVar 2) (mNil))) (mInt 2305843009213693951))) (mRet (mNew (mCons (mVar 3) (mCons (mBin vMod (mCall (pure1 vInt) (mCons (mBin vAdd (mBin vAdd (mBin vMul (mVar 4) (mInt k4)) (mBin vMul (mBin vMul (mInt k5) (mVar 1)) (mVar 1))) (mInt k6)) (mNil))) (mInt 2305843009213693921)) (mCons (mInt 0) (mNil))))))))) [.sc ns, .d (.int place)] S = some (.loc S.length, S ++ [o]) ∧ Pot 0 o := by
  have e1 : mulOk (cell % 2305843009213693951) k4 = true := mulOk_r (by omega) (by omega)
  have e2 : mulOk k5 place = true := mulOk_r (by omega) (by omega)
  have e3 : mulOk (k5 * place) place = true := mulOk_r (by omega) (by omega)
  have e4 : ∀ (x : Int) (p : Prop) [Decidable p], mulOk x (if p then 1 else 0) = true := fun x p _ => by split <;> exact mulOk_r (by decide) (by decide)
  refine ⟨.lst [.int (absI cell % ((10 : Int) ^ 60) ^ 5 * (if decide ((10 : Int) ^ 18 ≤ absI cell) = true then 1 else 0)), .int ((cell % 2305843009213693951 * k4 + k5 * place * place + k6) % 2305843009213693921), .int 0], ?_, _, _, _, rfl, ?_, ?_, Int.le_refl _, Int.le_refl _⟩
  · simp [fnD, hm, pow_ten60, pow_own, pow_18, vGe, e1, e2, e3, e4, fits, trim_new]
    done
  · exact Int.emod_nonneg _ (by decide)
  · have := Int.emod_lt_of_pos (cell % 2305843009213693951 * k4 + k5 * place * place + k6) (b := 2305843009213693921) (by decide)
    omega
theorem potA_ok {k2 k3 k4 k5 k6 : Int} (h2 : -10000000 < k2 ∧ k2 < 10000000) (h4 : -10000000 < k4 ∧ k4 < 10000000) (h5 : -10000000 < k5 ∧ k5 < 10000000) : FnPot (fnD 5 (bPotA k2 k3 k4 k5 k6)) := fun ns place S h0 h1 => by
  have e2 : mulOk k2 place = true := mulOk_r (by omega) (by omega)
  by_cases hl : place < ns.length
  · have hx : ∃ x, atI (ns.map PyData.int) place = some (.int x) := by
      rw [atI_pos h0 (by simpa using hl)]
      exact ⟨ns[place.toNat]'(by omega), by simp [List.getElem?_eq_getElem (show place.toNat < ns.length by omega)]⟩
    obtain ⟨x, hx⟩ := hx
    exact pot_tail k2 k3 k4 k5 k6 place h4 h5 ns S h0 h1 _ x (by simp [vLt, hl, hx])
  · exact pot_tail k2 k3 k4 k5 k6 place h4 h5 ns S h0 h1 _ ((ns.take (min 1 ns.length)).sum % 1000003 + k2 * place + k3) (by simp [vLt, hl, e2, vCut, vSum, cutD, HT.sIx, ← List.map_take])
theorem potB_ok {k2 k3 k4 k5 k6 : Int} (h2 : -10000000 < k2 ∧ k2 < 10000000) (h4 : -10000000 < k4 ∧ k4 < 10000000) (h5 : -10000000 < k5 ∧ k5 < 10000000) : FnPot (fnD 5 (bPotB k2 k3 k4 k5 k6)) := fun ns place S h0 h1 => by
  have e2 : mulOk k2 place = true := mulOk_r (by omega) (by omega)
  by_cases hl : place < ns.length
  · have hx : ∃ x, atI (ns.map PyData.int) place = some (.int x) := by
      rw [atI_pos h0 (by simpa using hl)]
      exact ⟨ns[place.toNat]'(by omega), by simp [List.getElem?_eq_getElem (show place.toNat < ns.length by omega)]⟩
    obtain ⟨x, hx⟩ := hx
    exact pot_tail k2 k3 k4 k5 k6 place h4 h5 ns S h0 h1 _ x (by simp [vLt, hl, hx])
  · exact pot_tail k2 k3 k4 k5 k6 place h4 h5 ns S h0 h1 _ (k2 * place + k3) (by simp [vLt, hl, e2])
def FnTake (f : Fn) : Prop := ∀ (n : Nat) (S : Sto) (k u : Int) (o : O), S[n]? = some o → Pot k o → k < 1000000 → 0 < u → u < 18446744073709551616 → ∃ (d : Int) (o' : O), f [.loc n, .d (.int u)] S = some (.d (.int d), S.set n o') ∧ 0 ≤ d ∧ d < u ∧ Pot (k + 1) o'
theorem primes_at (c : Int) : ∃ p : Int, atI [PyData.int 2147483647, .int 2147483629, .int 2147483587, .int 2147483579, .int 2147483563] (c % 5) = some (.int p) ∧ 0 < p ∧ p < 2147483648 := by
  have h : c % 5 = 0 ∨ c % 5 = 1 ∨ c % 5 = 2 ∨ c % 5 = 3 ∨ c % 5 = 4 := by omega
  rcases h with h | h | h | h | h <;> (rw [h]; exact ⟨_, rfl, by decide, by decide⟩)
theorem atI3 (x y z : D) : atI [x, y, z] 0 = some x ∧ atI [x, y, z] 1 = some y ∧ atI [x, y, z] 2 = some z := ⟨rfl, rfl, rfl⟩
theorem takeA_ok {k1 k2 k3 k4 k5 : Int} (h1 : 0 ≤ k1 ∧ k1 < 200000) (h2 : 0 ≤ k2 ∧ k2 < 10000) (h3 : 0 < k3) (h4 : 0 ≤ k4 ∧ k4 < 10000) (h5 : 0 < k5 ∧ k5 < 18446744073709551616) : FnTake (fnD 5 (bTakeA k1 k2 k3 k4 k5)) := fun n S k u o hn hP hk hu hu2 => by
  obtain ⟨a, b, c, rfl, b0, b1, c0, c1⟩ := hP
  have hlt : n < S.length := (List.getElem?_eq_some_iff.mp hn).1
  have hset : ∀ o : O, (S.set n o)[n]? = some o := fun o => by simp [hlt]
  by_cases ha : 0 < a
  · refine ⟨a % u, .lst [.int (a / u), .int b, .int c], ?_, Int.emod_nonneg _ (by omega), Int.emod_lt_of_pos _ hu, a / u, b, c, rfl, b0, b1, c0, by omega⟩
    simp [fnD, bTakeA, vGt, hn, atI, ixN, ha, hu, divOk_of hu hu2, vSetI]
  · have m1 : mulOk k1 (c + 1) = true := mulOk_r (by omega) (by omega)
    have m2 : mulOk (k1 * (c + 1)) (c + 1) = true := mulOk_r (by omega) (by omega)
    have m3 : mulOk k4 (c + 1) = true := mulOk_r (by omega) (by omega)
    obtain ⟨p, hp, p0, p1⟩ := primes_at (c + 1)
    have q0 : 0 ≤ k1 * (c + 1) := Int.mul_nonneg h1.1 (by omega)
    have q1 : k1 * (c + 1) ≤ 200000 * 1000001 := Int.mul_le_mul (by omega) (by omega) (by omega) (by omega)
    have q2 : 0 ≤ k1 * (c + 1) * (c + 1) := Int.mul_nonneg q0 (by omega)
    have q3 : k1 * (c + 1) * (c + 1) ≤ 200000 * 1000001 * 1000001 := Int.mul_le_mul q1 (by omega) (by omega) (by omega)
    have w1 : powOk (b + k1 * (c + 1) * (c + 1) + k2) 3 = true := powOk_s (by omega) (by omega) (by omega)
    have r0 : 0 ≤ (b + k1 * (c + 1) * (c + 1) + k2) ^ 3 % p := Int.emod_nonneg _ (by omega)
    have r1 : (b + k1 * (c + 1) * (c + 1) + k2) ^ 3 % p < p := Int.emod_lt_of_pos _ p0
    have m4 : mulOk ((b + k1 * (c + 1) * (c + 1) + k2) ^ 3 % p) ((b + k1 * (c + 1) * (c + 1) + k2) ^ 3 % p % k3 + k4 * (c + 1)) = true := mulOk_l (by omega) (by omega)
    refine ⟨(b + k1 * (c + 1) * (c + 1) + k2) ^ 3 % p * ((b + k1 * (c + 1) * (c + 1) + k2) ^ 3 % p % k3 + k4 * (c + 1)) % 2305843009213693907 / k5 % u, .lst [.int a, .int b, .int (c + 1)], ?_, Int.emod_nonneg _ (by omega), Int.emod_lt_of_pos _ hu, a, b, c + 1, rfl, b0, b1, by omega, by omega⟩
    simp [fnD, bTakeA, vGt, hn, atI3, hset, ha, hu, divOk_of h5.1 h5.2, vSetI, ixN, m1, m2, m3, m4, hp, w1, p0, fits, h3]
theorem takeB_ok {k1 k2 k3 k4 k5 : Int} (h1 : 0 ≤ k1 ∧ k1 < 200000) (h2 : 0 ≤ k2 ∧ k2 < 10000) (h3 : 0 < k3) (h4 : 0 ≤ k4 ∧ k4 < 10000) (h5 : 0 < k5 ∧ k5 < 18446744073709551616) : FnTake (fnD 5 (bTakeB k1 k2 k3 k4 k5)) := fun n S k u o hn hP hk hu hu2 => by
  obtain ⟨a, b, c, rfl, b0, b1, c0, c1⟩ := hP
  have hlt : n < S.length := (List.getElem?_eq_some_iff.mp hn).1
  have hset : ∀ o : O, (S.set n o)[n]? = some o := fun o => by simp [hlt]
  by_cases ha : 0 < a
  · refine ⟨a % u, .lst [.int (a / u), .int b, .int c], ?_, Int.emod_nonneg _ (by omega), Int.emod_lt_of_pos _ hu, a / u, b, c, rfl, b0, b1, c0, by omega⟩
    simp [fnD, bTakeB, vGt, hn, atI, ixN, ha, hu, divOk_of hu hu2, vSetI]
  · have m1 : mulOk k1 (c + 1) = true := mulOk_r (by omega) (by omega)
    have m2 : mulOk (k1 * (c + 1)) (c + 1) = true := mulOk_r (by omega) (by omega)
    have m3 : mulOk k4 (c + 1) = true := mulOk_r (by omega) (by omega)
    obtain ⟨p, hp, p0, p1⟩ := primes_at (c + 1)
    have q0 : 0 ≤ k1 * (c + 1) := Int.mul_nonneg h1.1 (by omega)
    have q1 : k1 * (c + 1) ≤ 200000 * 1000001 := Int.mul_le_mul (by omega) (by omega) (by omega) (by omega)
    have q2 : 0 ≤ k1 * (c + 1) * (c + 1) := Int.mul_nonneg q0 (by omega)
    have q3 : k1 * (c + 1) * (c + 1) ≤ 200000 * 1000001 * 1000001 := Int.mul_le_mul q1 (by omega) (by omega) (by omega)
    have w1 : powOk (b + k1 * (c + 1) * (c + 1) + k2) 3 = true := powOk_s (by omega) (by omega) (by omega)
    have r0 : 0 ≤ (b + k1 * (c + 1) * (c + 1) + k2) ^ 3 % p := Int.emod_nonneg _ (by omega)
    have r1 : (b + k1 * (c + 1) * (c + 1) + k2) ^ 3 % p < p := Int.emod_lt_of_pos _ p0
    have m4 : mulOk ((b + k1 * (c + 1) * (c + 1) + k2) ^ 3 % p) ((b + k1 * (c + 1) * (c + 1) + k2) ^ 3 % p % k3 + k4 * (c + 1)) = true := mulOk_l (by omega) (by omega)
    refine ⟨(b + k1 * (c + 1) * (c + 1) + k2) ^ 3 % p * ((b + k1 * (c + 1) * (c + 1) + k2) ^ 3 % p % k3 + k4 * (c + 1)) % 2305843009213693907 / k5 % u, .lst [.int a, .int b, .int (c + 1)], ?_, Int.emod_nonneg _ (by omega), Int.emod_lt_of_pos _ hu, a, b, c + 1, rfl, b0, b1, by omega, by omega⟩
    simp [fnD, bTakeB, vGt, hn, atI3, hset, ha, hu, divOk_of h5.1 h5.2, vSetI, ixN, m1, m2, m3, m4, hp, w1, p0, fits, h3]
/-! ### loops -/
theorem big62_of {i : Int} (h1 : -4611686018427387904 ≤ i) (h2 : i < 4611686018427387904) : big62 i = true := by
  unfold big62
  simp [says_iff, h1, h2]
theorem rangeD_at (n : Nat) : ∀ (lo : Int) (i : Nat), i < n → (rangeD lo n)[i]? = some (.int (lo + i)) := by
  induction n with
  | zero => intro lo i h; omega
  | succ n ih =>
    intro lo i h
    cases i with
    | zero => simp [rangeD]
    | succ i =>
      have := ih (lo + 1) i (by omega)
      simp only [rangeD, List.getElem?_cons_succ, this]
      congr 2
      omega
@[simp] theorem rangeD_length (lo : Int) (n : Nat) : (rangeD lo n).length = n := rangeD_len n lo
/-- a loop that runs through, nothing handed back -/
theorem forM_nx {g : MG} {b : MS} (I : Nat → Env → Sto → Prop) : ∀ (ds : List D) (j : Nat) (σ : Env) (S : Sto), I j σ S →
    (∀ i d σ S, ds[i]? = some d → I (j + i) σ S → ∃ σ1 σ2 S2, g (.d d) σ = some σ1 ∧ b σ1 S = some (.nx σ2 S2) ∧ I (j + i + 1) σ2 S2) →
    ∃ σ' S', forM g b ds σ S = some (.nx σ' S') ∧ I (j + ds.length) σ' S'
  | [], j, σ, S, h0, _ => ⟨σ, S, rfl, h0⟩
  | d :: ds, j, σ, S, h0, hs => by
    obtain ⟨σ1, σ2, S2, h1, h2, h3⟩ := hs 0 d σ S rfl h0
    obtain ⟨σ', S', h4, h5⟩ := forM_nx I ds (j + 1) σ2 S2 h3 fun i d σ S hi hI => by
      have := hs (i + 1) d σ S (by simpa using hi) (by rw [show j + (i + 1) = j + 1 + i by omega]; exact hI)
      rw [show j + (i + 1) + 1 = j + 1 + i + 1 by omega] at this
      exact this
    refine ⟨σ', S', by simp [h1, h2, h4], ?_⟩
    rw [show j + (d :: ds).length = j + 1 + ds.length by simp; omega]
    exact h5
/-- a comprehension with no test; the store may change -/
theorem compM_st {g : MG} {m : ME} (I : Nat → Sto → Prop) (P : D → Prop) : ∀ (ds : List D) (j : Nat) (σ : Env) (S : Sto) (acc : List D), I j S → acc.length + ds.length ≤ 16777216 →
    (∀ i d S, ds[i]? = some d → I (j + i) S → ∃ σ1 x S', g (.d d) σ = some σ1 ∧ m σ1 S = some (.d x, S') ∧ P x ∧ I (j + i + 1) S') →
    ∃ xs S', compM g mYes m ds σ S acc = some (acc ++ xs, S') ∧ I (j + ds.length) S' ∧ xs.length = ds.length ∧ ∀ x ∈ xs, P x
  | [], j, σ, S, acc, h0, _, _ => ⟨[], S, by simp, h0, rfl, fun _ h => by cases h⟩
  | d :: ds, j, σ, S, acc, h0, hl, hs => by
    obtain ⟨σ1, x, S1, h1, h2, hP, h3⟩ := hs 0 d S rfl h0
    simp only [List.length_cons] at hl
    obtain ⟨xs, S', h4, h5, h6, h7⟩ := compM_st I P ds (j + 1) σ S1 (acc ++ [x]) h3 (by simp; omega) fun i d S hi hI => by
      have := hs (i + 1) d S (by simpa using hi) (by rw [show j + (i + 1) = j + 1 + i by omega]; exact hI)
      rw [show j + (i + 1) + 1 = j + 1 + i + 1 by omega] at this
      exact this
    refine ⟨x :: xs, S', ?_, ?_, by simp [h6], fun y hy => ?_⟩
    · have hf : fits (acc.length + 1) = true := decide_eq_true (by omega)
      simp only [compM, mYes] at h4 ⊢
      simp [h1, h2, hf, h4]
    · rw [show j + (d :: ds).length = j + 1 + ds.length by simp; omega]
      exact h5
    · rcases List.mem_cons.mp hy with rfl | hy
      · exact hP
      · exact h7 y hy
/-- a comprehension over data that leaves the store: map and filter -/
theorem compM_pure {g : MG} {t : MT} {m : ME} {σ : Env} {S : Sto} {p : D → Bool} {f : D → D} : ∀ (ds : List D) (acc : List D), acc.length + ds.length ≤ 16777216 →
    (∀ d ∈ ds, ∃ σ1, g (.d d) σ = some σ1 ∧ t σ1 S = some (p d, S) ∧ (p d = true → m σ1 S = some (.d (f d), S))) →
    compM g t m ds σ S acc = some (acc ++ (ds.filter p).map f, S)
  | [], acc, _, _ => by simp
  | d :: ds, acc, hl, hs => by
    obtain ⟨σ1, h1, h2, h3⟩ := hs d (by simp)
    simp only [List.length_cons] at hl
    cases hp : p d with
    | true =>
      have hf : fits (acc.length + 1) = true := decide_eq_true (by omega)
      have ih := compM_pure ds (acc ++ [f d]) (by simp; omega) fun d hd => hs d (by simp [hd])
      simp [h1, h2, hp, h3 hp, hf, ih]
    | false =>
      have ih := compM_pure ds acc (by omega) fun d hd => hs d (by simp [hd])
      simp [h1, h2, hp, ih]
/-- every entry true -/
theorem all_true : ∀ (xs : List D), (∀ x ∈ xs, x = .bool true) → ∃ bs, boolsOf xs = some bs ∧ bs.all id = true
  | [], _ => ⟨[], rfl, rfl⟩
  | x :: xs, h => by
    obtain ⟨bs, h1, h2⟩ := all_true xs fun y hy => h y (by simp [hy])
    have := h x (by simp)
    subst this
    exact ⟨true :: bs, by simp [h1], by simp [h2]⟩
def FnCells (f : Fn) : Prop := ∀ (ns : List Int) (m : Nat), m < 1000 → ∀ S : Sto, ∃ k : Nat, k ≤ m + 1 ∧ f [.sc ns, .d (.int m)] S = some (.d (.list (rangeD 0 k)), S)
theorem cells_ok : FnCells (fnD 2 bCells) := fun ns m hm S => by
  refine ⟨(maxI 1 (minI m ns.length) - 0).toNat, ?_, ?_⟩
  · unfold maxI minI
    split <;> split <;> omega
  · have h : rgOk 0 (maxI 1 (minI m ns.length)) = true := by
      unfold rgOk big62
      simp only [Bool.and_eq_true, says_iff]
      unfold maxI minI
      split <;> split <;> omega
    simp [fnD, bCells, h]
/-- the def that a round of a law asks -/
def FnRight (B : Int) (f : Fn) : Prop := ∀ (n : Nat) (S : Sto) (k : Int) (o : O), S[n]? = some o → Pot k o → k + B ≤ 1000000 → ∃ o', f [.loc n] S = some (.d (.bool true), S.set n o') ∧ Pot (k + B) o'
def bLaw (fc fp fr : Fn) (cells laps : Int) : MS := mSeq (mFor (iL (mCallF 2 fc (mCons (mVar 0) (mCons (mInt cells) (mNil))))) (gN 1) (mSeq (mAsg 2 (mCallF 2 fp (mCons (mVar 0) (mCons (mVar 1) (mNil))))) (mIfS (mNotT (mB (mCall (pure1 vAll) (mCons (mComp (iR1 (mCons (mInt laps) (mNil))) (gN 3) (mYes) (mCallF 1 fr (mCons (mVar 2) (mNil))) [3]) (mNil))))) (mRet (mBool false)) (mSkip)))) (mRet (mBool true))
theorem law_inner {fr : Fn} {B : Int} (laps : Nat) (hl : laps < 1000) (hr : FnRight B fr) (hB : 0 ≤ B) (hb : laps * B ≤ 1000000) (s0 s1 : Option W) (S : Sto) (o : O) (hp2 : Pot 0 o) :
    ∃ xs S2, compM (gN 3) mYes (mCallF 1 fr (mCons (mVar 2) mNil)) (rangeD 0 laps) [s0, s1, some (.loc S.length), none] (S ++ [o]) [] = some ([] ++ xs, S2) ∧ ∀ x ∈ xs, x = .bool true := by
  obtain ⟨xs, S2, c1, c2, c3, c4⟩ := compM_st (g := gN 3) (m := mCallF 1 fr (mCons (mVar 2) (mNil))) (fun j S' => ∃ o', S'[S.length]? = some o' ∧ Pot (j * B) o') (fun x => x = .bool true) (rangeD 0 laps) 0 [s0, s1, some (.loc S.length), none] (S ++ [o]) [] ⟨o, by simp, by simpa using hp2⟩ (by rw [rangeD_length]; show 0 + laps ≤ 16777216; omega) (by
      rintro j d T hj ⟨o', ho, hP⟩
      have hjk : j < laps := by
        have := (List.getElem?_eq_some_iff.mp hj).1
        simpa using this
      have hlt : S.length < T.length := (List.getElem?_eq_some_iff.mp ho).1
      have hle : ((0 + j : Nat) : Int) * B + B ≤ 1000000 := by
        have e : ((0 + j : Nat) : Int) * B + B = ((j + 1 : Nat) : Int) * B := by
          rw [show ((j + 1 : Nat) : Int) = (j : Int) + 1 by omega, Int.add_mul]; simp
        rw [e]
        exact Int.le_trans (Int.mul_le_mul_of_nonneg_right (by omega) hB) hb
      obtain ⟨o2, r1, r2⟩ := hr S.length T _ o' ho hP hle
      refine ⟨_, .bool true, T.set S.length o2, rfl, by simp [r1], rfl, o2, by simp [hlt], ?_⟩
      have e : ((0 + j : Nat) : Int) * B + B = ((0 + j + 1 : Nat) : Int) * B := by
        rw [show ((0 + j + 1 : Nat) : Int) = ((0 + j : Nat) : Int) + 1 by omega, Int.add_mul]; simp
      rw [← e]
      exact r2)
  exact ⟨xs, S2, c1, c4⟩
def bRound (fp fr : Fn) (laps : Int) : MS := mSeq (mAsg 2 (mCallF 2 fp (mCons (mVar 0) (mCons (mVar 1) (mNil))))) (mIfS (mNotT (mB (mCall (pure1 vAll) (mCons (mComp (iR1 (mCons (mInt laps) (mNil))) (gN 3) (mYes) (mCallF 1 fr (mCons (mVar 2) (mNil))) [3]) (mNil))))) (mRet (mBool false)) (mSkip))
theorem law_round {fp fr : Fn} {B : Int} (laps : Nat) (hl : laps < 1000) (hp : FnPot fp) (hr : FnRight B fr) (hB : 0 ≤ B) (hb : laps * B ≤ 1000000) (ns : List Int) (i : Nat) (hi : i < 1000) (y z : Option W) (S : Sto) :
    ∃ S2, bRound fp fr laps [some (.sc ns), some (.d (.int i)), y, z] S = some (.nx [some (.sc ns), some (.d (.int i)), some (.loc S.length), z] S2) := by
  have hbig : big62 (laps : Int) = true := big62_of (by omega) (by omega)
  obtain ⟨o, hp1, hp2⟩ := hp ns (i : Int) S (by omega) (by omega)
  obtain ⟨xs, S2, c1, c4⟩ := law_inner laps hl hr hB hb (some (.sc ns)) (some (.d (.int i))) S o hp2
  obtain ⟨bs, b1, b2⟩ := all_true xs c4
  refine ⟨S2, ?_⟩
  rw [List.nil_append] at c1
  have e1 : iR1 (mCons (mInt laps) mNil) [some (.sc ns), some (.d (.int i)), some (.loc S.length), z] (S ++ [o]) = some (rangeD 0 laps, S ++ [o]) := by
    simp [hbig]
  have e2 : mComp (iR1 (mCons (mInt laps) mNil)) (gN 3) mYes (mCallF 1 fr (mCons (mVar 2) mNil)) [3] [some (.sc ns), some (.d (.int i)), some (.loc S.length), z] (S ++ [o]) = some (.d (.list xs), S2) := by
    unfold mComp
    rw [e1]
    show ((compM (gN 3) mYes (mCallF 1 fr (mCons (mVar 2) mNil)) (rangeD 0 laps) [some (.sc ns), some (.d (.int i)), some (.loc S.length), none] (S ++ [o]) []).map fun q => (W.d (.list q.1), q.2)) = _
    rw [c1]
    rfl
  have e3 : mCallF 2 fp (mCons (mVar 0) (mCons (mVar 1) mNil)) [some (.sc ns), some (.d (.int i)), y, z] S = some (.loc S.length, S ++ [o]) := by simp [hp1]
  have e4 : pure1 vAll S2 [.d (.list xs)] = some (.d (.bool true), S2) := by simp [vAll, b1, b2]
  simp only [bRound, mSeq, mAsg, e3, Option.map_some, Option.bind_some, List.set_cons_succ, List.set_cons_zero, mIfS, mNotT, mB, mCall, mCons, mNil, e2, e4, asB, mSkip]
  rfl
theorem law_std {fc fp fr : Fn} {B : Int} (cells laps : Nat) (hc : cells < 900) (hl : laps < 1000) (hfc : FnCells fc) (hp : FnPot fp) (hr : FnRight B fr) (hB : 0 ≤ B) (hb : laps * B ≤ 1000000) (ns : List Int) :
    ∃ S', fnD 4 (bLaw fc fp fr cells laps) [.sc ns] [] = some (.d (.bool true), S') := by
  obtain ⟨k, hk, hcl⟩ := hfc ns cells (by omega) []
  obtain ⟨σ', S', h1, h2, h3⟩ := forM_nx (g := gN 1) (b := bRound fp fr laps) (fun i σ S => ∃ x y z, σ = [some (.sc ns), x, y, z]) (rangeD 0 k) 0 [some (.sc ns), none, none, none] [] ⟨_, _, _, rfl⟩ (by
    rintro i d σ S hi ⟨x, y, z, rfl⟩
    have hik : i < k := by
      have := (List.getElem?_eq_some_iff.mp hi).1
      simpa using this
    rw [rangeD_at k 0 i hik, Int.zero_add] at hi
    cases hi
    obtain ⟨S2, h⟩ := law_round laps hl hp hr hB hb ns i (by omega) y z S
    exact ⟨_, _, S2, rfl, h, ⟨_, _, _, rfl⟩⟩)
  exact ⟨_, by simp only [bRound] at h1; simp [fnD, bLaw, hcl, h1, -forM]; rfl⟩
end DL

set_option Elab.async false
set_option linter.all false
set_option maxRecDepth 100000
set_option autoImplicit false
noncomputable section
/-! The data layer, what it computes: more of it. -/
namespace DL
open PySem PySem.Spec PyProof.Rows L2
@[simp] theorem isi_int_int (S : Sto) (i : Int) : vIsi S (.d (.int i)) (.v (.ty "int")) = some (.d (.bool true)) := rfl
@[simp] theorem isi_int_bool (S : Sto) (i : Int) : vIsi S (.d (.int i)) (.v (.ty "bool")) = some (.d (.bool false)) := rfl
@[simp] theorem isi_int_str (S : Sto) (i : Int) : vIsi S (.d (.int i)) (.v (.ty "str")) = some (.d (.bool false)) := rfl
@[simp] theorem isi_int_tuple (S : Sto) (i : Int) : vIsi S (.d (.int i)) (.v (.ty "tuple")) = some (.d (.bool false)) := rfl
@[simp] theorem isi_tuple (S : Sto) (xs : List D) : vIsi S (.d (.tuple xs)) (.v (.ty "tuple")) = some (.d (.bool true)) := rfl
@[simp] theorem isi_list (S : Sto) (xs : List D) : vIsi S (.d (.list xs)) (.v (.ty "list")) = some (.d (.bool true)) := rfl
@[simp] theorem isi_str (S : Sto) (x : Str) : vIsi S (.d (.str x)) (.v (.ty "str")) = some (.d (.bool true)) := rfl
@[simp] theorem eqv_int (i j : Int) : PyData.eqv (.int i) (.int j) = decide (i = j) := by first | rfl | simp [PyData.eqv]
theorem atI_neg {α : Type} {xs : List α} (k : Nat) {i : Int} (hk : i = -(k : Int)) (h0 : 0 < k) (h : k ≤ xs.length) : atI xs i = xs[xs.length - k]? := by
  unfold atI
  rw [ixN_neg (by omega) (by omega)]
  have : (i + (xs.length : Int)).toNat = xs.length - k := by omega
  simp [this]
@[simp] theorem lookD_d (S : Sto) (d : D) (w : W) : lookD S (.d d) w = none := rfl
@[simp] theorem lookD_ct (S : Sto) (ds : List D) (w : W) : lookD S (.ct ds) w = none := rfl
theorem hasD_int (x : Int) (xs : List Int) : hasD (.int x) (xs.map PyData.int) = decide (x ∈ xs) := by
  unfold hasD
  induction xs with
  | nil => rfl
  | cons y ys ih =>
    simp only [List.map_cons, List.any_cons, ih, eqv_int, List.mem_cons, Bool.decide_or]
    congr 1
    exact decide_eq_decide.mpr ⟨fun h => h.symm, fun h => h.symm⟩
theorem memOk_int (x : Int) (xs : List Int) : memOk (.int x) (xs.map PyData.int) = true := by
  simp [memOk, flatD]
@[simp] theorem in_ints (S : Sto) (x : Int) (xs : List Int) : vIn S (.d (.int x)) (.d (.list (xs.map PyData.int))) = some (.d (.bool (decide (x ∈ xs)))) := by
  simp [vIn, vHas, asD, memOk_int, hasD_int]
@[simp] theorem notIn_ints (S : Sto) (x : Int) (xs : List Int) : vNotIn S (.d (.int x)) (.d (.list (xs.map PyData.int))) = some (.d (.bool (!decide (x ∈ xs)))) := by
  simp [vNotIn, vHas, asD, memOk_int, hasD_int]
@[simp] theorem in_tup (S : Sto) (x : Int) (xs : List Int) : vIn S (.d (.int x)) (.d (.tuple (xs.map PyData.int))) = some (.d (.bool (decide (x ∈ xs)))) := by
  simp [vIn, vHas, asD, memOk_int, hasD_int]
@[simp] theorem notIn_tup (S : Sto) (x : Int) (xs : List Int) : vNotIn S (.d (.int x)) (.d (.tuple (xs.map PyData.int))) = some (.d (.bool (!decide (x ∈ xs)))) := by
  simp [vNotIn, vHas, asD, memOk_int, hasD_int]
theorem indexD_at {x : Int} : ∀ {xs : List Int} {i : Nat}, xs[i]? = some x → (∀ j, j < i → xs[j]? ≠ some x) → indexD (.int x) (xs.map PyData.int) = some i
  | [], _, h, _ => by simp at h
  | y :: ys, 0, h, _ => by
    simp at h
    simp [indexD, h]
  | y :: ys, i + 1, h, hn => by
    have h0 : y ≠ x := fun e => hn 0 (by omega) (by simp [e])
    have := indexD_at (xs := ys) (i := i) (by simpa using h) fun j hj => by simpa using hn (j + 1) (by omega)
    simp [indexD, h0, this]
theorem index_at {S : Sto} {x : Int} {xs : List Int} {i : Nat} (h : xs[i]? = some x) (hn : ∀ j, j < i → xs[j]? ≠ some x) : gIndex S (.d (.list (xs.map PyData.int))) [.d (.int x)] = some (.d (.int i), S) := by
  simp [gIndex, flatD, indexD_at h hn]
/-- a comprehension with no test; the store may change, what it gives is told -/
theorem compM_map {g : MG} {m : ME} {σ : Env} (I : Sto → Prop) (f : D → D) : ∀ (ds : List D) (S : Sto) (acc : List D), I S → acc.length + ds.length ≤ 16777216 →
    (∀ d S, d ∈ ds → I S → ∃ σ1 S', g (.d d) σ = some σ1 ∧ m σ1 S = some (.d (f d), S') ∧ I S') →
    ∃ S', compM g mYes m ds σ S acc = some (acc ++ ds.map f, S') ∧ I S'
  | [], S, acc, h0, _, _ => ⟨S, by simp, h0⟩
  | d :: ds, S, acc, h0, hl, hs => by
    obtain ⟨σ1, S1, h1, h2, h3⟩ := hs d S (by simp) h0
    simp only [List.length_cons] at hl
    obtain ⟨S', h4, h5⟩ := compM_map I f ds S1 (acc ++ [f d]) h3 (by simp; omega) fun d S hd hI => hs d S (by simp [hd]) hI
    refine ⟨S', ?_, h5⟩
    have hf : fits (acc.length + 1) = true := decide_eq_true (by omega)
    simp [h1, h2, hf, h4]
/-- a comprehension with no test that leaves the store -/
theorem compM_map0 {g : MG} {m : ME} {σ : Env} {S : Sto} (f : D → D) (ds : List D) (hl : ds.length ≤ 16777216) (hs : ∀ d ∈ ds, ∃ σ1, g (.d d) σ = some σ1 ∧ m σ1 S = some (.d (f d), S)) :
    compM g mYes m ds σ S [] = some (ds.map f, S) := by
  obtain ⟨S', h1, h2⟩ := compM_map (g := g) (m := m) (σ := σ) (fun T => T = S) f ds S [] rfl (by simpa using hl) fun d T hd e => by
    subst e
    obtain ⟨σ1, h1, h2⟩ := hs d hd
    exact ⟨σ1, T, h1, h2, rfl⟩
  subst h2
  simpa using h1
theorem rangeD_eq (n : Nat) : ∀ lo : Int, rangeD lo n = (List.range n).map fun (i : Nat) => PyData.int (lo + (i : Int)) := by
  induction n with
  | zero => intro lo; rfl
  | succ n ih =>
    intro lo
    rw [List.range_succ_eq_map]
    simp only [rangeD, ih, List.map_cons, List.map_map]
    congr 1
    · simp
    · apply List.map_congr_left
      intro i _
      simp
      omega
end DL
namespace DL
open PySem PySem.Spec PyProof.Rows L2
/-- the same, over what a plain list becomes -/
theorem compM_mapE {α : Type} {g : MG} {m : ME} {σ : DL.Env} (I : Sto → Prop) (e f : α → D) : ∀ (xs : List α) (S : Sto) (acc : List D), I S → acc.length + xs.length ≤ 16777216 →
    (∀ x S, x ∈ xs → I S → ∃ σ1 S', g (.d (e x)) σ = some σ1 ∧ m σ1 S = some (.d (f x), S') ∧ I S') →
    ∃ S', compM g mYes m (xs.map e) σ S acc = some (acc ++ xs.map f, S') ∧ I S'
  | [], S, acc, h0, _, _ => ⟨S, by simp, h0⟩
  | d :: ds, S, acc, h0, hl, hs => by
    obtain ⟨σ1, S1, h1, h2, h3⟩ := hs d S (by simp) h0
    simp only [List.length_cons] at hl
    obtain ⟨S', h4, h5⟩ := compM_mapE I e f ds S1 (acc ++ [f d]) h3 (by simp; omega) fun d S hd hI => hs d S (by simp [hd]) hI
    refine ⟨S', ?_, h5⟩
    have hf : fits (acc.length + 1) = true := decide_eq_true (by omega)
    simp [h1, h2, hf, h4]
theorem compM_mapE0 {α : Type} {g : MG} {m : ME} {σ : DL.Env} {S : Sto} (e f : α → D) (xs : List α) (hl : xs.length ≤ 16777216) (hs : ∀ x ∈ xs, ∃ σ1, g (.d (e x)) σ = some σ1 ∧ m σ1 S = some (.d (f x), S)) :
    compM g mYes m (xs.map e) σ S [] = some (xs.map f, S) := by
  obtain ⟨S', h1, h2⟩ := compM_mapE (g := g) (m := m) (σ := σ) (fun T => T = S) e f xs S [] rfl (by simpa using hl) fun d T hd e => by
    subst e
    obtain ⟨σ1, h1, h2⟩ := hs d hd
    exact ⟨σ1, T, h1, h2, rfl⟩
  subst h2
  simpa using h1
theorem cutD_from1 (ds : List D) : cutD ds (some 1) none = ds.tail := by
  cases ds with
  | nil => rfl
  | cons d ds => simp [cutD, HT.sIx]
theorem zipD_map {α β : Type} (e : α → D) (f : β → D) : ∀ (xs : List α) (ys : List β), zipD (xs.map e) (ys.map f) = (xs.zip ys).map fun p => .tuple [e p.1, f p.2]
  | [], _ => by simp [zipD]
  | _ :: _, [] => by simp [zipD]
  | x :: xs, y :: ys => by simp [zipD, zipD_map e f xs ys]
theorem all_map_true {α : Type} (xs : List α) (f : α → D) (h : ∀ x ∈ xs, f x = .bool true) (S : Sto) : vAll S (.d (.list (xs.map f))) = some (.d (.bool true)) := by
  obtain ⟨bs, h1, h2⟩ := all_true (xs.map f) fun y hy => by
    obtain ⟨x, hx, rfl⟩ := List.mem_map.mp hy
    exact h x hx
  simp only [vAll, asL_d, Option.bind_some, h1, Option.map_some, h2]
theorem any_map {α : Type} (xs : List α) (p : α → Bool) (S : Sto) : vAny S (.d (.list (xs.map fun x => .bool (p x)))) = some (.d (.bool (xs.any p))) := by
  have : boolsOf (xs.map fun x => .bool (p x)) = some (xs.map p) := by
    have := boolsOf_map (xs.map p)
    rwa [List.map_map] at this
  simp only [vAny, asL_d, Option.bind_some, this, Option.map_some, List.any_map]
  rfl
theorem all_map {α : Type} (xs : List α) (p : α → Bool) (S : Sto) : vAll S (.d (.list (xs.map fun x => .bool (p x)))) = some (.d (.bool (xs.all p))) := by
  have : boolsOf (xs.map fun x => .bool (p x)) = some (xs.map p) := by
    have := boolsOf_map (xs.map p)
    rwa [List.map_map] at this
  simp only [vAll, asL_d, Option.bind_some, this, Option.map_some, List.all_map]
  rfl
theorem set_same {α : Type} {S : List α} {n : Nat} {o : α} (h : S[n]? = some o) : S.set n o = S := by
  obtain ⟨hl, e⟩ := List.getElem?_eq_some_iff.mp h
  subst e
  simp
/-- n different numbers under N -/
theorem nodup_le : ∀ (N : Nat) (l : List Nat), l.Nodup → (∀ x ∈ l, x < N) → l.length ≤ N
  | 0, [], _, _ => Nat.le_refl _
  | 0, x :: _, _, h => absurd (h x (by simp)) (by omega)
  | N + 1, l, hd, h => by
    have h1 := nodup_le N (l.erase N) (hd.erase N) fun x hx => by
      have := (List.Nodup.mem_erase_iff hd).mp hx
      have := h x this.2
      omega
    rw [List.length_erase] at h1
    split at h1 <;> omega
end DL
namespace DL
open PySem PySem.Spec PyProof.Rows L2
theorem eqvAll_nums : ∀ xs ys : List Int, PyData.eqvAll (xs.map PyData.int) (ys.map PyData.int) = decide (xs = ys)
  | [], [] => by simp [PyData.eqvAll]
  | [], _ :: _ => by simp [PyData.eqvAll]
  | _ :: _, [] => by simp [PyData.eqvAll]
  | x :: xs, y :: ys => by
    simp only [List.map_cons, PyData.eqvAll, eqv_int, eqvAll_nums xs ys, List.cons.injEq, Bool.decide_and]
theorem eqv_list_nums (xs ys : List Int) : PyData.eqv (.list (xs.map PyData.int)) (.list (ys.map PyData.int)) = decide (xs = ys) := by
  simp only [PyData.eqv]; exact eqvAll_nums xs ys
theorem eqv_tuple_nums (xs ys : List Int) : PyData.eqv (.tuple (xs.map PyData.int)) (.tuple (ys.map PyData.int)) = decide (xs = ys) := by
  simp only [PyData.eqv]; exact eqvAll_nums xs ys
theorem lay_nums : ∀ xs : List Int, PyData.canLayAll0 (xs.map PyData.int) = true
  | [] => by simp [PyData.canLayAll0]
  | x :: xs => by simp [PyData.canLayAll0, PyData.canLay0, lay_nums xs]
theorem depth_nums : ∀ xs : List Int, PyData.depthAll (xs.map PyData.int) = 0
  | [] => by simp [PyData.depthAll]
  | x :: xs => by simp [PyData.depthAll, PyData.depth, depth_nums xs]
theorem shaped_list_nums (xs : List Int) : SeqAt.shaped (.list (xs.map PyData.int)) = true := by
  simp [SeqAt.shaped, PyData.canLay0, PyData.depth, lay_nums, depth_nums]
theorem shaped_tuple_nums (xs : List Int) : SeqAt.shaped (.tuple (xs.map PyData.int)) = true := by
  simp [SeqAt.shaped, PyData.canLay0, PyData.depth, lay_nums, depth_nums]
theorem eq_list_nums (S : Sto) (xs ys : List Int) : vEq S (.d (.list (xs.map PyData.int))) (.d (.list (ys.map PyData.int))) = some (.d (.bool (decide (xs = ys)))) := by
  simp [vEq, strs2, asD, shaped_list_nums, eqv_list_nums]
theorem ne_list_nums (S : Sto) (xs ys : List Int) : vNe S (.d (.list (xs.map PyData.int))) (.d (.list (ys.map PyData.int))) = some (.d (.bool (!decide (xs = ys)))) := by
  simp [vNe, strs2, asD, shaped_list_nums, eqv_list_nums]
theorem eq_tuple_nums (S : Sto) (xs ys : List Int) : vEq S (.d (.tuple (xs.map PyData.int))) (.d (.tuple (ys.map PyData.int))) = some (.d (.bool (decide (xs = ys)))) := by
  simp [vEq, strs2, asD, shaped_tuple_nums, eqv_tuple_nums]
theorem ne_tuple_nums (S : Sto) (xs ys : List Int) : vNe S (.d (.tuple (xs.map PyData.int))) (.d (.tuple (ys.map PyData.int))) = some (.d (.bool (!decide (xs = ys)))) := by
  simp [vNe, strs2, asD, shaped_tuple_nums, eqv_tuple_nums]
theorem eq_bool (S : Sto) (a b : Bool) : vEq S (.d (.bool a)) (.d (.bool b)) = some (.d (.bool (decide (a = b)))) := by
  cases a <;> cases b <;> rfl
theorem ne_bool (S : Sto) (a b : Bool) : vNe S (.d (.bool a)) (.d (.bool b)) = some (.d (.bool (!decide (a = b)))) := by
  cases a <;> cases b <;> rfl
theorem ne_str_same (S : Sto) (x : Str) : vNe S (.d (.str x)) (.d (.str x)) = some (.d (.bool false)) := by
  have h : (x == x) = true := by first | exact beq_self_eq_true x | simp
  simp [vNe, strs2, h]
theorem eq_str_same (S : Sto) (x : Str) : vEq S (.d (.str x)) (.d (.str x)) = some (.d (.bool true)) := by
  have h : (x == x) = true := by first | exact beq_self_eq_true x | simp
  simp [vEq, strs2, h]
theorem show_bool (b : Bool) : showOk (.bool b) = true := by cases b <;> decide +kernel
theorem show_none : showOk .none = true := by decide +kernel
theorem repr_d {S : Sto} {d : D} (h : showOk d = true) : vRepr S (.d d) = some (.d (.str d.shown)) := by simp [vRepr, asD, h]
end DL
namespace DL
open PySem PySem.Spec PyProof.Rows L2
/-- a comprehension with a test, over what a plain list becomes; the store stays -/
theorem compM_filterE {α : Type} {g : MG} {t : MT} {m : ME} {σ : DL.Env} {S : Sto} (e f : α → D) (p : α → Bool) : ∀ (xs : List α) (acc : List D), acc.length + xs.length ≤ 16777216 →
    (∀ x ∈ xs, ∃ σ1, g (.d (e x)) σ = some σ1 ∧ t σ1 S = some (p x, S) ∧ (p x = true → m σ1 S = some (.d (f x), S))) →
    compM g t m (xs.map e) σ S acc = some (acc ++ (xs.filter p).map f, S)
  | [], acc, _, _ => by simp
  | d :: ds, acc, hl, hs => by
    obtain ⟨σ1, h1, h2, h3⟩ := hs d (by simp)
    simp only [List.length_cons] at hl
    cases hp : p d with
    | true =>
      have hf : fits (acc.length + 1) = true := decide_eq_true (by omega)
      have ih := compM_filterE e f p ds (acc ++ [f d]) (by simp; omega) fun d hd => hs d (by simp [hd])
      simp [h1, h2, hp, h3 hp, hf, ih]
    | false =>
      have ih := compM_filterE e f p ds acc (by omega) fun d hd => hs d (by simp [hd])
      simp [h1, h2, hp, ih]
/-- numbers as data -/
abbrev nn (xs : List Nat) : List D := xs.map fun (n : Nat) => PyData.int (n : Int)
theorem nn_eq (xs : List Nat) : nn xs = (xs.map fun (n : Nat) => (n : Int)).map PyData.int := by simp [nn]
theorem mem_cast (i : Nat) (xs : List Nat) : (i : Int) ∈ (xs.map fun (n : Nat) => (n : Int)) ↔ i ∈ xs := by
  rw [List.mem_map]
  exact ⟨fun ⟨a, h, e⟩ => by
    have : a = i := by omega
    exact this ▸ h, fun h => ⟨i, h, rfl⟩⟩
theorem in_nn (S : Sto) (i : Nat) (xs : List Nat) : vIn S (.d (.int (i : Int))) (.d (.list (nn xs))) = some (.d (.bool (decide (i ∈ xs)))) := by
  rw [nn_eq, in_ints]
  congr 3
  exact decide_eq_decide.mpr (mem_cast i xs)
theorem notIn_nn (S : Sto) (i : Nat) (xs : List Nat) : vNotIn S (.d (.int (i : Int))) (.d (.list (nn xs))) = some (.d (.bool (!decide (i ∈ xs)))) := by
  rw [nn_eq, notIn_ints]
  congr 4
  exact decide_eq_decide.mpr (mem_cast i xs)
theorem intsOf_nn (xs : List Nat) : intsOf (nn xs) = some (xs.map fun (n : Nat) => (n : Int)) := by
  rw [nn_eq]; exact intsOf_map _
theorem rangeD0 (n : Nat) : rangeD 0 n = nn (List.range n) := by
  rw [rangeD_eq]
  apply List.map_congr_left
  intro i _
  simp
theorem look_key {S : Sto} {n : Nat} {kvs : List (List Key × D)} (h : S[n]? = some (.dT kvs)) (s c : Int) : lookD S (.loc n) (.d (.tuple [.int s, .int c])) = some (valD kvs [.inl s, .inl c]) := by
  simp [lookD, h, keyT, keysD, keyD]
end DL

set_option Elab.async false
set_option linter.all false
set_option maxRecDepth 100000
set_option autoImplicit false
noncomputable section
namespace K37
open PySem PySem.Spec PyProof.Rows L2 DL
def top (i : Nat) : Stmt := PySem.Challenge.pw_whoeverbegins_k37_whole_products_of_heap.main.body.getD i (.Pass ⟨0, 0, 0, 0⟩)
/-- what the top has left of what is built in, and of constants -/
structure Tx (K : PySem.W.Frag) (mg : Str → Option Value) : Prop where
  f_abs : mg "abs" = none
  f_all : mg "all" = none
  f_any : mg "any" = none
  f_bool : mg "bool" = none
  f_int : mg "int" = none
  f_isinstance : mg "isinstance" = none
  f_len : mg "len" = none
  f_list : mg "list" = none
  f_max : mg "max" = none
  f_min : mg "min" = none
  f_range : mg "range" = none
  f_repr : mg "repr" = none
  f_sum : mg "sum" = none
  f_tuple : mg "tuple" = none
  c_MOST_HEAP : Glb K mg "MOST_HEAP" (.d (.int 255))
  c_MOST_HEAPS : Glb K mg "MOST_HEAPS" (.d (.int 40))
  c_FIELDS : Glb K mg "FIELDS" (.ct [.int 1, .int 2, .int 4, .int 16, .int 256])
section
variable {P : Program} {w : World} {K : PySem.W.Frag} {mg : Str → Option Value} {base : Heap}
/-! ### is_integer -/
abbrev st_is_integer : Stmt := top 5
abbrev N_is_integer : List Str := ["value"]
theorem sc_is_integer : FnScope N_is_integer ["value"] (defScope st_is_integer) := ⟨rfl, rfl, rfl, by decide +kernel, rfl, by decide +kernel, by decide +kernel⟩
def b_is_integer : MS := mRet (mAnd (mCall (pure2 vIsi) (mCons (mVar 0) (mCons (mC (.v (.ty "int"))) (mNil)))) (mNot (mCall (pure2 vIsi) (mCons (mVar 0) (mCons (mC (.v (.ty "bool"))) (mNil))))))
def F_is_integer : Fn := fnD 1 b_is_integer
theorem ok_is_integer {f : Addr} {fd : FuncData} (F : FunD K "is_integer" "is_integer" (defArgs st_is_integer) (defBody st_is_integer) (defScope st_is_integer) [] [] f fd) (T : Tx K mg) : FnG P w K mg base CX0 1 f fd ["value"] (spD K 1 F_is_integer) := by
  refine fn_mk F (k := 0) sc_is_integer rfl rfl (b := b_is_integer) fun cdv A outer s H E hG hr => ?_
  have nd := sc_is_integer.nd
  exact ds_one (d_ret (d_and (d_callB (c_isi) rfl T.f_isinstance b_isinstance (da_cons (d_var 0) (da_cons (d_type rfl T.f_int b_int) (da_nil)))) (d_one (d_not (d_callB (c_isi) rfl T.f_isinstance b_isinstance (da_cons (d_var 0) (da_cons (d_type rfl T.f_bool b_bool) (da_nil))))))))
theorem cal_is_integer {f : Addr} {fd : FuncData} (F : FunD K "is_integer" "is_integer" (defArgs st_is_integer) (defBody st_is_integer) (defScope st_is_integer) [] [] f fd) (hm : mg "is_integer" = some (.ref f)) (G : FnG P w K mg base CX0 1 f fd ["value"] (spD K 1 F_is_integer)) : Cal P w K mg base 1 "is_integer" 1 F_is_integer := Cal.of F hm G rfl (fun _ _ _ _ _ _ us hl => match us, hl with | [_], _ => rfl)
/-! ### sum_by -/
abbrev st_sum_by : Stmt := top 14
abbrev N_sum_by : List Str := ["heaps", "found", "heap"]
theorem sc_sum_by : FnScope N_sum_by ["heaps"] (defScope st_sum_by) := ⟨rfl, rfl, rfl, by decide +kernel, rfl, by decide +kernel, by decide +kernel⟩
def l_sum_by_0 : MS := mAsg 1 (mBin (vInt2 Builtin.bitXor) (mVar 1) (mVar 2))
def b_sum_by : MS := mSeq (mAsg 1 (mInt 0)) (mSeq (mFor (iS (mVar 0)) (gN 2) (l_sum_by_0)) (mRet (mVar 1)))
def F_sum_by : Fn := fnD 3 b_sum_by
theorem ok_sum_by {f : Addr} {fd : FuncData} (F : FunD K "sum_by" "sum_by" (defArgs st_sum_by) (defBody st_sum_by) (defScope st_sum_by) [] [] f fd) : FnG P w K mg base CX0 1 f fd ["heaps"] (spD K 1 F_sum_by) := by
  refine fn_mk F (k := 0) sc_sum_by rfl rfl (b := b_sum_by) fun cdv A outer s H E hG hr => ?_
  have nd := sc_sum_by.nd
  exact ds_cons (d_set 1 nd (.inl rfl) (d_int)) (ds_cons (d_for PassesOwn.never rfl (di_seq (d_var 0)) (dg_name 2 nd (.inl rfl)) (ds_one (d_set 1 nd (.inl rfl) (d_bin o_xor (d_var 1) (d_var 2))))) (ds_one (d_ret (d_var 1))))
theorem cal_sum_by {f : Addr} {fd : FuncData} (F : FunD K "sum_by" "sum_by" (defArgs st_sum_by) (defBody st_sum_by) (defScope st_sum_by) [] [] f fd) (hm : mg "sum_by" = some (.ref f)) (G : FnG P w K mg base CX0 1 f fd ["heaps"] (spD K 1 F_sum_by)) : Cal P w K mg base 1 "sum_by" 1 F_sum_by := Cal.of F hm G rfl (fun _ _ _ _ _ _ us hl => match us, hl with | [_], _ => rfl)
/-! ### times -/
abbrev st_times : Stmt := top 16
abbrev N_times : List Str := ["one", "other", "part", "high", "low", "top", "rest", "lows", "highs", "both", "number"]
theorem sc_times : FnScope N_times ["one", "other"] (defScope st_times) := ⟨rfl, rfl, rfl, by decide +kernel, rfl, by decide +kernel, by decide +kernel⟩
def s_times_0 (self : Fn) : MS := mIfS (mOrT (mB (mBin vLt (mVar 0) (mInt 2))) (mB (mBin vLt (mVar 1) (mInt 2)))) (mRet (mBin vMul (mVar 0) (mVar 1))) (mSkip)
def s_times_1 (self : Fn) : MS := mAsg 2 (mBin vIx (mComp (iT (mTup (mCons (mInt 2) (mCons (mInt 4) (mCons (mInt 16) (mNil)))))) (gN 10) (mB (mBin vLe (mVar 10) (mCall (pure2 (vInt22 maxI)) (mCons (mVar 0) (mCons (mVar 1) (mNil)))))) (mVar 10) [10]) (mUn vNeg (mInt 1)))
def s_times_2 (self : Fn) : MS := mPar2 3 4 (mCons (mBin vFdiv (mVar 0) (mVar 2)) (mCons (mBin vMod (mVar 0) (mVar 2)) (mNil)))
def s_times_3 (self : Fn) : MS := mPar2 5 6 (mCons (mBin vFdiv (mVar 1) (mVar 2)) (mCons (mBin vMod (mVar 1) (mVar 2)) (mNil)))
def s_times_4 (self : Fn) : MS := mPar2 7 8 (mCons (mCallF 2 self (mCons (mVar 4) (mCons (mVar 6) (mNil)))) (mCons (mCallF 2 self (mCons (mVar 3) (mCons (mVar 5) (mNil)))) (mNil)))
def s_times_5 (self : Fn) : MS := mAsg 9 (mBin (vInt2 Builtin.bitXor) (mCallF 2 self (mCons (mBin (vInt2 Builtin.bitXor) (mVar 3) (mVar 4)) (mCons (mBin (vInt2 Builtin.bitXor) (mVar 5) (mVar 6)) (mNil)))) (mVar 7))
def s_times_6 (self : Fn) : MS := mRet (mBin (vInt2 Builtin.bitXor) (mBin (vInt2 Builtin.bitXor) (mBin vMul (mVar 9) (mVar 2)) (mVar 7)) (mCallF 2 self (mCons (mVar 8) (mCons (mBin vFdiv (mVar 2) (mInt 2)) (mNil)))))
def b_times (self : Fn) : MS := mSeq (s_times_0 self) (mSeq (s_times_1 self) (mSeq (s_times_2 self) (mSeq (s_times_3 self) (mSeq (s_times_4 self) (mSeq (s_times_5 self) (s_times_6 self))))))
def F_times : Nat → Fn
  | 0 => fun _ _ => none
  | n + 1 => fnD 11 (b_times (F_times n))
theorem cal_times {f : Addr} {fd : FuncData} (F : FunD K "times" "times" (defArgs st_times) (defBody st_times) (defScope st_times) [] [] f fd) (hm : mg "times" = some (.ref f)) {n : Nat} (G : FnG P w K mg base CX0 (n + 1) f fd ["one", "other"] (spD K 2 (F_times n))) : Cal P w K mg base (n + 1) "times" 2 (F_times n) := Cal.of F hm G rfl (fun _ _ _ _ _ _ us hl => match us, hl with | [_, _], _ => rfl)
theorem ok_times {f : Addr} {fd : FuncData} (F : FunD K "times" "times" (defArgs st_times) (defBody st_times) (defScope st_times) [] [] f fd) (hm : mg "times" = some (.ref f)) (T : Tx K mg) : ∀ n, FnG P w K mg base CX0 (n + 1) f fd ["one", "other"] (spD K 2 (F_times n))
  | 0 => fn_never
  | n + 1 => by
    have C_times := cal_times F hm (ok_times F hm T n)
    rw [show n + 1 + 1 = (n + 1) + 1 from by omega]
    refine fn_mk F (k := n + 1) sc_times rfl rfl (b := b_times (F_times n)) fun cdv A outer s H E hG hr => ?_
    have nd := sc_times.nd
    exact ds_cons (d_ifS (d_w (d_orT (d_cmpT o_lt (d_var 0) (d_int) (nomark _)) (d_or1 (d_cmpT o_lt (d_var 1) (d_int) (nomark _))))) (ds_one (d_ret (d_bin o_mul (d_var 0) (d_var 1)))) (ds_nil)) (ds_cons (d_set 2 nd (.inl rfl) (d_ix i_ix (d_comp [("number", 10)] rfl nd (di_tup (d_tup (da_cons (d_int) (da_cons (d_int) (da_cons (d_int) (da_nil)))))) (blkOk_by (by kernel_rfl)) (fun _ _ _ _ _ => dgc_name 10 nd (.inl rfl) rfl (by decide) (.inr rfl)) (fun _ _ _ _ _ => dts_one (d_cmpT o_le (d_var 10) (d_callB (c_max2 rfl) rfl T.f_max b_max (da_cons (d_var 0) (da_cons (d_var 1) (da_nil)))) (nomark _))) (fun _ _ _ _ _ => d_var 10)) (d_un o_neg (d_int)) (fun _ _ => rfl))) (ds_cons (d_par2 3 4 rfl nd rfl rfl (da_cons (d_bin o_fdiv (d_var 0) (d_var 2)) (da_cons (d_bin o_mod (d_var 0) (d_var 2)) (da_nil))) rfl) (ds_cons (d_par2 5 6 rfl nd rfl rfl (da_cons (d_bin o_fdiv (d_var 1) (d_var 2)) (da_cons (d_bin o_mod (d_var 1) (d_var 2)) (da_nil))) rfl) (ds_cons (d_par2 7 8 rfl nd rfl rfl (da_cons (C_times.call hG (hr.mono (by omega)) rfl (da_cons (d_var 4) (da_cons (d_var 6) (da_nil)))) (da_cons (C_times.call hG (hr.mono (by omega)) rfl (da_cons (d_var 3) (da_cons (d_var 5) (da_nil)))) (da_nil))) rfl) (ds_cons (d_set 9 nd (.inl rfl) (d_bin o_xor (C_times.call hG (hr.mono (by omega)) rfl (da_cons (d_bin o_xor (d_var 3) (d_var 4)) (da_cons (d_bin o_xor (d_var 5) (d_var 6)) (da_nil)))) (d_var 7))) (ds_one (d_ret (d_bin o_xor (d_bin o_xor (d_bin o_mul (d_var 9) (d_var 2)) (d_var 7)) (C_times.call hG (hr.mono (by omega)) rfl (da_cons (d_var 8) (da_cons (d_bin o_fdiv (d_var 2) (d_int)) (da_nil))))))))))))
/-! ### _law_pot -/
abbrev st_law_pot : Stmt := top 21
abbrev N_law_pot : List Str := ["script", "place", "cell", "own", "small"]
theorem sc_law_pot : FnScope N_law_pot ["script", "place"] (defScope st_law_pot) := ⟨rfl, rfl, rfl, by decide +kernel, rfl, by decide +kernel, by decide +kernel⟩
def s_law_pot_0 : MS := mAsg 2 (mIf (mB (mBin vLt (mVar 1) (mCall (pure1 vLen) (mCons (mVar 0) (mNil))))) (mBin vIx (mVar 0) (mVar 1)) (mBin vAdd (mBin vMul (mInt 467) (mVar 1)) (mInt 331)))
def s_law_pot_1 : MS := mAsg 3 (mBin vMul (mBin vMod (mCall (pure1 vInt) (mCons (mCall (pure1 (vInt1 absI)) (mCons (mVar 2) (mNil))) (mNil))) (mBin vPow (mBin vPow (mInt 10) (mInt 60)) (mInt 5))) (mCall (pure1 vInt) (mCons (mBin vGe (mCall (pure1 (vInt1 absI)) (mCons (mVar 2) (mNil))) (mBin vPow (mInt 10) (mInt 18))) (mNil))))
def s_law_pot_2 : MS := mAsg 4 (mBin vMod (mCall (pure1 vInt) (mCons (mVar 2) (mNil))) (mInt 2305843009213693951))
def s_law_pot_3 : MS := mRet (mNew (mCons (mVar 3) (mCons (mBin vMod (mCall (pure1 vInt) (mCons (mBin vAdd (mBin vAdd (mBin vMul (mVar 4) (mInt 70061)) (mBin vMul (mBin vMul (mInt 9109) (mVar 1)) (mVar 1))) (mInt 787)) (mNil))) (mInt 2305843009213693921)) (mCons (mInt 0) (mNil)))))
def b_law_pot : MS := mSeq (s_law_pot_0) (mSeq (s_law_pot_1) (mSeq (s_law_pot_2) (s_law_pot_3)))
def F_law_pot : Fn := fnD 5 b_law_pot
theorem ok_law_pot {f : Addr} {fd : FuncData} (F : FunD K "_law_pot" "_law_pot" (defArgs st_law_pot) (defBody st_law_pot) (defScope st_law_pot) [] [] f fd) (T : Tx K mg) : FnG P w K mg base CX0 1 f fd ["script", "place"] (spD K 2 F_law_pot) := by
  refine fn_mk F (k := 0) sc_law_pot rfl rfl (b := b_law_pot) fun cdv A outer s H E hG hr => ?_
  have nd := sc_law_pot.nd
  exact ds_cons (d_set 2 nd (.inl rfl) (d_if (d_cmpT o_lt (d_var 1) (d_callB (c_len) rfl T.f_len b_len (da_cons (d_var 0) (da_nil))) (nomark _)) (d_ix i_ix (d_var 0) (d_var 1) (fun _ _ => rfl)) (d_bin o_add (d_bin o_mul (d_int) (d_var 1)) (d_int)))) (ds_cons (d_set 3 nd (.inl rfl) (d_bin o_mul (d_bin o_mod (d_callTy (c_int) rfl T.f_int b_int (da_cons (d_callB (c_abs) rfl T.f_abs b_abs (da_cons (d_var 2) (da_nil))) (da_nil))) (d_bin o_pow (d_bin o_pow (d_int) (d_int)) (d_int))) (d_callTy (c_int) rfl T.f_int b_int (da_cons (d_cmp o_ge (d_callB (c_abs) rfl T.f_abs b_abs (da_cons (d_var 2) (da_nil))) (d_bin o_pow (d_int) (d_int)) (nomark _)) (da_nil))))) (ds_cons (d_set 4 nd (.inl rfl) (d_bin o_mod (d_callTy (c_int) rfl T.f_int b_int (da_cons (d_var 2) (da_nil))) (d_int))) (ds_one (d_ret (d_new (da_cons (d_var 3) (da_cons (d_bin o_mod (d_callTy (c_int) rfl T.f_int b_int (da_cons (d_bin o_add (d_bin o_add (d_bin o_mul (d_var 4) (d_int)) (d_bin o_mul (d_bin o_mul (d_int) (d_var 1)) (d_var 1))) (d_int)) (da_nil))) (d_int)) (da_cons (d_int) (da_nil)))))))))
theorem cal_law_pot {f : Addr} {fd : FuncData} (F : FunD K "_law_pot" "_law_pot" (defArgs st_law_pot) (defBody st_law_pot) (defScope st_law_pot) [] [] f fd) (hm : mg "_law_pot" = some (.ref f)) (G : FnG P w K mg base CX0 1 f fd ["script", "place"] (spD K 2 F_law_pot)) : Cal P w K mg base 1 "_law_pot" 2 F_law_pot := Cal.of F hm G rfl (fun _ _ _ _ _ _ us hl => match us, hl with | [_, _], _ => rfl)
/-! ### _law_take -/
abbrev st_law_take : Stmt := top 22
abbrev N_law_take : List Str := ["pot", "upto", "digit", "prime", "mixed"]
theorem sc_law_take : FnScope N_law_take ["pot", "upto"] (defScope st_law_take) := ⟨rfl, rfl, rfl, by decide +kernel, rfl, by decide +kernel, by decide +kernel⟩
def s_law_take_0 : MS := mAsg 2 (mBin vMod (mCall (pure1 vInt) (mCons (mBin vIx (mVar 0) (mInt 0)) (mNil))) (mVar 1))
def s_law_take_1 : MS := mSetI vSetI (mVar 0) (mInt 0) (mBin vFdiv (mBin vIx (mVar 0) (mInt 0)) (mVar 1))
def s_law_take_2 : MS := mIfS (mB (mBin vGt (mBin vIx (mVar 0) (mInt 0)) (mInt 0))) (mSeq (s_law_take_0) (mSeq (s_law_take_1) (mRet (mVar 2)))) (mSkip)
def s_law_take_3 : MS := mSetI vSetI (mVar 0) (mInt 2) (mBin vAdd (mBin vIx (mVar 0) (mInt 2)) (mInt 1))
def s_law_take_4 : MS := mAsg 3 (mBin vIx (mLst (mCons (mInt 2147483647) (mCons (mInt 2147483629) (mCons (mInt 2147483587) (mCons (mInt 2147483579) (mCons (mInt 2147483563) (mNil))))))) (mBin vMod (mCall (pure1 vInt) (mCons (mBin vIx (mVar 0) (mInt 2)) (mNil))) (mInt 5)))
def s_law_take_5 : MS := mAsg 4 (mBin vMod (mCall (pure1 vInt) (mCons (mBin vPow (mCall (pure1 vInt) (mCons (mBin vAdd (mBin vAdd (mBin vIx (mVar 0) (mInt 1)) (mBin vMul (mBin vMul (mInt 90089) (mBin vIx (mVar 0) (mInt 2))) (mBin vIx (mVar 0) (mInt 2)))) (mInt 157)) (mNil))) (mInt 3)) (mNil))) (mVar 3))
def s_law_take_6 : MS := mAsg 4 (mBin vMod (mCall (pure1 vInt) (mCons (mBin vMul (mVar 4) (mBin vAdd (mBin vMod (mCall (pure1 vInt) (mCons (mVar 4) (mNil))) (mInt 10169)) (mBin vMul (mInt 257) (mBin vIx (mVar 0) (mInt 2))))) (mNil))) (mInt 2305843009213693907))
def s_law_take_7 : MS := mRet (mBin vMod (mCall (pure1 vInt) (mCons (mBin vFdiv (mVar 4) (mInt 233)) (mNil))) (mVar 1))
def b_law_take : MS := mSeq (s_law_take_2) (mSeq (s_law_take_3) (mSeq (s_law_take_4) (mSeq (s_law_take_5) (mSeq (s_law_take_6) (s_law_take_7)))))
def F_law_take : Fn := fnD 5 b_law_take
theorem ok_law_take {f : Addr} {fd : FuncData} (F : FunD K "_law_take" "_law_take" (defArgs st_law_take) (defBody st_law_take) (defScope st_law_take) [] [] f fd) (T : Tx K mg) : FnG P w K mg base CX0 1 f fd ["pot", "upto"] (spD K 2 F_law_take) := by
  refine fn_mk F (k := 0) sc_law_take rfl rfl (b := b_law_take) fun cdv A outer s H E hG hr => ?_
  have nd := sc_law_take.nd
  exact ds_cons (d_ifS (d_cmpT o_gt (d_ix i_ix (d_var 0) (d_int) (fun _ _ => rfl)) (d_int) (nomark _)) (ds_cons (d_set 2 nd (.inl rfl) (d_bin o_mod (d_callTy (c_int) rfl T.f_int b_int (da_cons (d_ix i_ix (d_var 0) (d_int) (fun _ _ => rfl)) (da_nil))) (d_var 1))) (ds_cons (d_setI (d_bin o_fdiv (d_ix i_ix (d_var 0) (d_int) (fun _ _ => rfl)) (d_var 1)) (d_var 0) (d_int) (s_setI (hu_of hr))) (ds_one (d_ret (d_var 2))))) (ds_nil)) (ds_cons (d_setI (d_bin o_add (d_ix i_ix (d_var 0) (d_int) (fun _ _ => rfl)) (d_int)) (d_var 0) (d_int) (s_setI (hu_of hr))) (ds_cons (d_set 3 nd (.inl rfl) (d_ix i_ix (d_lst (da_cons (d_int) (da_cons (d_int) (da_cons (d_int) (da_cons (d_int) (da_cons (d_int) (da_nil))))))) (d_bin o_mod (d_callTy (c_int) rfl T.f_int b_int (da_cons (d_ix i_ix (d_var 0) (d_int) (fun _ _ => rfl)) (da_nil))) (d_int)) (fun _ _ => rfl))) (ds_cons (d_set 4 nd (.inl rfl) (d_bin o_mod (d_callTy (c_int) rfl T.f_int b_int (da_cons (d_bin o_pow (d_callTy (c_int) rfl T.f_int b_int (da_cons (d_bin o_add (d_bin o_add (d_ix i_ix (d_var 0) (d_int) (fun _ _ => rfl)) (d_bin o_mul (d_bin o_mul (d_int) (d_ix i_ix (d_var 0) (d_int) (fun _ _ => rfl))) (d_ix i_ix (d_var 0) (d_int) (fun _ _ => rfl)))) (d_int)) (da_nil))) (d_int)) (da_nil))) (d_var 3))) (ds_cons (d_set 4 nd (.inl rfl) (d_bin o_mod (d_callTy (c_int) rfl T.f_int b_int (da_cons (d_bin o_mul (d_var 4) (d_bin o_add (d_bin o_mod (d_callTy (c_int) rfl T.f_int b_int (da_cons (d_var 4) (da_nil))) (d_int)) (d_bin o_mul (d_int) (d_ix i_ix (d_var 0) (d_int) (fun _ _ => rfl))))) (da_nil))) (d_int))) (ds_one (d_ret (d_bin o_mod (d_callTy (c_int) rfl T.f_int b_int (da_cons (d_bin o_fdiv (d_var 4) (d_int)) (da_nil))) (d_var 1))))))))
theorem cal_law_take {f : Addr} {fd : FuncData} (F : FunD K "_law_take" "_law_take" (defArgs st_law_take) (defBody st_law_take) (defScope st_law_take) [] [] f fd) (hm : mg "_law_take" = some (.ref f)) (G : FnG P w K mg base CX0 1 f fd ["pot", "upto"] (spD K 2 F_law_take)) : Cal P w K mg base 1 "_law_take" 2 F_law_take := Cal.of F hm G rfl (fun _ _ _ _ _ _ us hl => match us, hl with | [_, _], _ => rfl)
/-! ### _law_cells -/
abbrev st_law_cells : Stmt := top 23
abbrev N_law_cells : List Str := ["script", "limit"]
theorem sc_law_cells : FnScope N_law_cells ["script", "limit"] (defScope st_law_cells) := ⟨rfl, rfl, rfl, by decide +kernel, rfl, by decide +kernel, by decide +kernel⟩
def b_law_cells : MS := mRet (mListR (rg1 (mCall (pure2 (vInt22 maxI)) (mCons (mInt 1) (mCons (mCall (pure2 (vInt22 minI)) (mCons (mVar 1) (mCons (mCall (pure1 vLen) (mCons (mVar 0) (mNil))) (mNil)))) (mNil))))))
def F_law_cells : Fn := fnD 2 b_law_cells
theorem ok_law_cells {f : Addr} {fd : FuncData} (F : FunD K "_law_cells" "_law_cells" (defArgs st_law_cells) (defBody st_law_cells) (defScope st_law_cells) [] [] f fd) (T : Tx K mg) : FnG P w K mg base CX0 1 f fd ["script", "limit"] (spD K 2 F_law_cells) := by
  refine fn_mk F (k := 0) sc_law_cells rfl rfl (b := b_law_cells) fun cdv A outer s H E hG hr => ?_
  have nd := sc_law_cells.nd
  exact ds_one (d_ret (d_listR rfl rfl T.f_list (dr_1 rfl T.f_range (d_callB (c_max2 rfl) rfl T.f_max b_max (da_cons (d_int) (da_cons (d_callB (c_min2 rfl) rfl T.f_min b_min (da_cons (d_var 1) (da_cons (d_callB (c_len) rfl T.f_len b_len (da_cons (d_var 0) (da_nil))) (da_nil)))) (da_nil)))))))
theorem cal_law_cells {f : Addr} {fd : FuncData} (F : FunD K "_law_cells" "_law_cells" (defArgs st_law_cells) (defBody st_law_cells) (defScope st_law_cells) [] [] f fd) (hm : mg "_law_cells" = some (.ref f)) (G : FnG P w K mg base CX0 1 f fd ["script", "limit"] (spD K 2 F_law_cells)) : Cal P w K mg base 1 "_law_cells" 2 F_law_cells := Cal.of F hm G rfl (fun _ _ _ _ _ _ us hl => match us, hl with | [_, _], _ => rfl)
/-! ### _law_sum -/
abbrev st_law_sum : Stmt := top 24
abbrev N_law_sum : List Str := ["heaps", "found", "step", "lap", "heap"]
theorem sc_law_sum : FnScope N_law_sum ["heaps"] (defScope st_law_sum) := ⟨rfl, rfl, rfl, by decide +kernel, rfl, by decide +kernel, by decide +kernel⟩
def s_law_sum_0 : MS := mAsgG (gTup 2 (gCons (gN 1) (gCons (gN 2) (gNil)))) (mTup (mCons (mInt 0) (mCons (mInt 1) (mNil))))
def s_law_sum_1 : MS := mAsg 1 (mBin vAdd (mVar 1) (mBin vMul (mVar 2) (mBin vMod (mCall (pure1 vSum) (mCons (mComp (iS (mVar 0)) (gN 4) (mYes) (mBin vMod (mBin vFdiv (mVar 4) (mVar 2)) (mInt 2)) [4]) (mNil))) (mInt 2))))
def l_law_sum_2 : MS := mSeq (s_law_sum_1) (mAsg 2 (mBin vMul (mInt 2) (mVar 2)))
def s_law_sum_3 : MS := mFor (iR1 (mCons (mInt 10) (mNil))) (gN 3) (l_law_sum_2)
def b_law_sum : MS := mSeq (s_law_sum_0) (mSeq (s_law_sum_3) (mRet (mVar 1)))
def F_law_sum : Fn := fnD 5 b_law_sum
theorem ok_law_sum {f : Addr} {fd : FuncData} (F : FunD K "_law_sum" "_law_sum" (defArgs st_law_sum) (defBody st_law_sum) (defScope st_law_sum) [] [] f fd) (T : Tx K mg) : FnG P w K mg base CX0 1 f fd ["heaps"] (spD K 1 F_law_sum) := by
  refine fn_mk F (k := 0) sc_law_sum rfl rfl (b := b_law_sum) fun cdv A outer s H E hG hr => ?_
  have nd := sc_law_sum.nd
  exact ds_cons (d_asg (d_tup (da_cons (d_int) (da_cons (d_int) (da_nil)))) (dg_tup rfl (dgs_cons (dg_name 1 nd (.inl rfl)) (dgs_cons (dg_name 2 nd (.inr rfl)) (dgs_nil))))) (ds_cons (d_for PassesOwn.never rfl (di_range1 rfl T.f_range (da_cons (d_int) (da_nil))) (dg_name 3 nd (.inl rfl)) (ds_cons (d_set 1 nd (.inl rfl) (d_bin o_add (d_var 1) (d_bin o_mul (d_var 2) (d_bin o_mod (d_callB (c_sum rfl) rfl T.f_sum b_sum (da_cons (d_comp [("heap", 4)] rfl nd (di_seq (d_var 0)) (blkOk_by (by kernel_rfl)) (fun _ _ _ _ _ => dgc_name 4 nd (.inl rfl) rfl (by decide) (.inr rfl)) (fun _ _ _ _ _ => dts_nil) (fun _ _ _ _ _ => d_bin o_mod (d_bin o_fdiv (d_var 4) (d_var 2)) (d_int))) (da_nil))) (d_int))))) (ds_one (d_set 2 nd (.inr rfl) (d_bin o_mul (d_int) (d_var 2)))))) (ds_one (d_ret (d_var 1))))
theorem cal_law_sum {f : Addr} {fd : FuncData} (F : FunD K "_law_sum" "_law_sum" (defArgs st_law_sum) (defBody st_law_sum) (defScope st_law_sum) [] [] f fd) (hm : mg "_law_sum" = some (.ref f)) (G : FnG P w K mg base CX0 1 f fd ["heaps"] (spD K 1 F_law_sum)) : Cal P w K mg base 1 "_law_sum" 1 F_law_sum := Cal.of F hm G rfl (fun _ _ _ _ _ _ us hl => match us, hl with | [_], _ => rfl)
/-! ### _law_least -/
abbrev st_law_least : Stmt := top 25
abbrev N_law_least : List Str := ["some", "number"]
theorem sc_law_least : FnScope N_law_least ["some"] (defScope st_law_least) := ⟨rfl, rfl, rfl, by decide +kernel, rfl, by decide +kernel, by decide +kernel⟩
def b_law_least : MS := mRet (mBin vIx (mComp (iR1 (mCons (mBin vAdd (mCall (pure1 vLen) (mCons (mVar 0) (mNil))) (mInt 1)) (mNil))) (gN 1) (mB (mBin vNotIn (mVar 1) (mVar 0))) (mVar 1) [1]) (mInt 0))
def F_law_least : Fn := fnD 2 b_law_least
theorem ok_law_least {f : Addr} {fd : FuncData} (F : FunD K "_law_least" "_law_least" (defArgs st_law_least) (defBody st_law_least) (defScope st_law_least) [] [] f fd) (T : Tx K mg) : FnG P w K mg base CX0 1 f fd ["some"] (spD K 1 F_law_least) := by
  refine fn_mk F (k := 0) sc_law_least rfl rfl (b := b_law_least) fun cdv A outer s H E hG hr => ?_
  have nd := sc_law_least.nd
  exact ds_one (d_ret (d_ix i_ix (d_comp [("number", 1)] rfl nd (di_range1 rfl T.f_range (da_cons (d_bin o_add (d_callB (c_len) rfl T.f_len b_len (da_cons (d_var 0) (da_nil))) (d_int)) (da_nil))) (blkOk_by (by kernel_rfl)) (fun _ _ _ _ _ => dgc_name 1 nd (.inl rfl) rfl (by decide) (.inr rfl)) (fun _ _ _ _ _ => dts_one (d_cmpT (o_notIn (u65 hr)) (d_var 1) (d_var 0) (by rfl))) (fun _ _ _ _ _ => d_var 1)) (d_int) (fun _ _ => rfl)))
theorem cal_law_least {f : Addr} {fd : FuncData} (F : FunD K "_law_least" "_law_least" (defArgs st_law_least) (defBody st_law_least) (defScope st_law_least) [] [] f fd) (hm : mg "_law_least" = some (.ref f)) (G : FnG P w K mg base CX0 1 f fd ["some"] (spD K 1 F_law_least)) : Cal P w K mg base 1 "_law_least" 1 F_law_least := Cal.of F hm G rfl (fun _ _ _ _ _ _ us hl => match us, hl with | [_], _ => rfl)
/-! ### is_between -/
abbrev st_is_between : Stmt := top 6
abbrev N_is_between : List Str := ["value", "least", "most"]
theorem sc_is_between : FnScope N_is_between ["value", "least", "most"] (defScope st_is_between) := ⟨rfl, rfl, rfl, by decide +kernel, rfl, by decide +kernel, by decide +kernel⟩
def b_is_between : MS := mRet (mAnd (mCallF 1 F_is_integer (mCons (mVar 0) (mNil))) (mChain vLe vLe (mVar 1) (mVar 0) (mVar 2)))
def F_is_between : Fn := fnD 3 b_is_between
theorem ok_is_between {f : Addr} {fd : FuncData} (F : FunD K "is_between" "is_between" (defArgs st_is_between) (defBody st_is_between) (defScope st_is_between) [] [] f fd) (C_is_integer : Cal P w K mg base 1 "is_integer" 1 F_is_integer) : FnG P w K mg base CX0 2 f fd ["value", "least", "most"] (spD K 3 F_is_between) := by
  refine fn_mk F (k := 1) sc_is_between rfl rfl (b := b_is_between) fun cdv A outer s H E hG hr => ?_
  have nd := sc_is_between.nd
  exact ds_one (d_ret (d_and (C_is_integer.call hG (hr.mono (by decide)) rfl (da_cons (d_var 0) (da_nil))) (d_one (d_chain o_le o_le (d_var 1) (d_var 0) (d_var 2)))))
theorem cal_is_between {f : Addr} {fd : FuncData} (F : FunD K "is_between" "is_between" (defArgs st_is_between) (defBody st_is_between) (defScope st_is_between) [] [] f fd) (hm : mg "is_between" = some (.ref f)) (G : FnG P w K mg base CX0 2 f fd ["value", "least", "most"] (spD K 3 F_is_between)) : Cal P w K mg base 2 "is_between" 3 F_is_between := Cal.of F hm G rfl (fun _ _ _ _ _ _ us hl => match us, hl with | [_, _, _], _ => rfl)
/-! ### is_closed -/
abbrev st_is_closed : Stmt := top 19
abbrev N_is_closed : List Str := ["number"]
theorem sc_is_closed : FnScope N_is_closed ["number"] (defScope st_is_closed) := ⟨rfl, rfl, rfl, by decide +kernel, rfl, by decide +kernel, by decide +kernel⟩
def b_is_closed : MS := mRet (mAnd (mCallF 1 F_is_integer (mCons (mVar 0) (mNil))) (mBin vIn (mVar 0) (mC (.ct [.int 1, .int 2, .int 4, .int 16, .int 256]))))
def F_is_closed : Fn := fnD 1 b_is_closed
theorem ok_is_closed {f : Addr} {fd : FuncData} (F : FunD K "is_closed" "is_closed" (defArgs st_is_closed) (defBody st_is_closed) (defScope st_is_closed) [] [] f fd) (T : Tx K mg) (C_is_integer : Cal P w K mg base 1 "is_integer" 1 F_is_integer) : FnG P w K mg base CX0 2 f fd ["number"] (spD K 1 F_is_closed) := by
  refine fn_mk F (k := 1) sc_is_closed rfl rfl (b := b_is_closed) fun cdv A outer s H E hG hr => ?_
  have nd := sc_is_closed.nd
  exact ds_one (d_ret (d_and (C_is_integer.call hG (hr.mono (by decide)) rfl (da_cons (d_var 0) (da_nil))) (d_one (d_cmp (o_in (u65 hr)) (d_var 0) ((T.c_FIELDS.name rfl)) (by rfl)))))
theorem cal_is_closed {f : Addr} {fd : FuncData} (F : FunD K "is_closed" "is_closed" (defArgs st_is_closed) (defBody st_is_closed) (defScope st_is_closed) [] [] f fd) (hm : mg "is_closed" = some (.ref f)) (G : FnG P w K mg base CX0 2 f fd ["number"] (spD K 1 F_is_closed)) : Cal P w K mg base 2 "is_closed" 1 F_is_closed := Cal.of F hm G rfl (fun _ _ _ _ _ _ us hl => match us, hl with | [_], _ => rfl)
theorem kw_3 {f : Addr} {fd : FuncData} (F : FunD K "is_closed" "is_closed" (defArgs st_is_closed) (defBody st_is_closed) (defScope st_is_closed) [] [] f fd) (hm : mg "is_closed" = some (.ref f)) (G : FnG P w K mg base CX0 2 f fd ["number"] (spD K 1 F_is_closed)) : CalK P w K mg base 2 "is_closed" 1 F_is_closed ["number"] [0] :=
  CalK.of F hm G rfl fun _ _ _ _ _ _ ws hl => match ws, hl with | [], hl => absurd hl (by simp [permL]) | _ :: _, _ => rfl
/-! ### _law_table -/
abbrev st_law_table : Stmt := top 26
abbrev N_law_table : List Str := ["many", "found", "x", "y", "some", "a", "b"]
theorem sc_law_table : FnScope N_law_table ["many"] (defScope st_law_table) := ⟨rfl, rfl, rfl, by decide +kernel, rfl, by decide +kernel, by decide +kernel⟩
def l_law_table_0 : MS := mExpr (mMeth isLoc gExtend (mVar 4) (mCons (mComp (iR1 (mCons (mVar 3) (mNil))) (gN 6) (mYes) (mCallF 1 F_law_sum (mCons (mTup (mCons (mBin vDGet (mVar 1) (mTup (mCons (mVar 5) (mCons (mVar 3) (mNil))))) (mCons (mBin vDGet (mVar 1) (mTup (mCons (mVar 2) (mCons (mVar 6) (mNil))))) (mCons (mBin vDGet (mVar 1) (mTup (mCons (mVar 5) (mCons (mVar 6) (mNil))))) (mNil))))) (mNil))) [6]) (mNil)))
def s_law_table_1 : MS := mFor (iR1 (mCons (mVar 2) (mNil))) (gN 5) (l_law_table_0)
def s_law_table_2 : MS := mSetI vSetI (mVar 1) (mTup (mCons (mVar 2) (mCons (mVar 3) (mNil)))) (mCallF 1 F_law_least (mCons (mVar 4) (mNil)))
def l_law_table_3 : MS := mSeq (mAsg 4 (mNew (mNil))) (mSeq (s_law_table_1) (mSeq (mFrzV 4) (s_law_table_2)))
def l_law_table_4 : MS := mFor (iR1 (mCons (mVar 0) (mNil))) (gN 3) (l_law_table_3)
def s_law_table_5 : MS := mFor (iR1 (mCons (mVar 0) (mNil))) (gN 2) (l_law_table_4)
def b_law_table : MS := mSeq (mAsg 1 (mNewT)) (mSeq (s_law_table_5) (mRet (mVar 1)))
def F_law_table : Fn := fnD 7 b_law_table
theorem ok_law_table {f : Addr} {fd : FuncData} (F : FunD K "_law_table" "_law_table" (defArgs st_law_table) (defBody st_law_table) (defScope st_law_table) [] [] f fd) (T : Tx K mg) (C_law_sum : Cal P w K mg base 1 "_law_sum" 1 F_law_sum) (C_law_least : Cal P w K mg base 1 "_law_least" 1 F_law_least) : FnG P w K mg base CX0 2 f fd ["many"] (spD K 1 F_law_table) := by
  refine fn_mk F (k := 1) sc_law_table rfl rfl (b := b_law_table) fun cdv A outer s H E hG hr => ?_
  have nd := sc_law_table.nd
  exact ds_cons (d_set 1 nd (.inr rfl) (d_newT)) (ds_cons (d_for PassesOwn.never rfl (di_range1 rfl T.f_range (da_cons (d_var 0) (da_nil))) (dg_name 2 nd (.inr rfl)) (ds_one (d_for PassesOwn.never rfl (di_range1 rfl T.f_range (da_cons (d_var 0) (da_nil))) (dg_name 3 nd (.inr rfl)) (ds_cons (d_set 4 nd (.inl rfl) (d_new (da_nil))) (ds_cons (d_for PassesOwn.never rfl (di_range1 rfl T.f_range (da_cons (d_var 2) (da_nil))) (dg_name 5 nd (.inr rfl)) (ds_one (d_expr (d_meth PySem.F.plainAttrs_list PySem.F.slot_list_extend PySem.F.type_list_extend t_extend ty_list (d_var 4) (da_cons (d_comp [("b", 6)] rfl nd (di_range1 rfl T.f_range (da_cons (d_var 3) (da_nil))) (blkOk_by (by kernel_rfl)) (fun _ _ _ _ _ => dgc_name 6 nd (.inl rfl) rfl (by decide) (.inr rfl)) (fun _ _ _ _ _ => dts_nil) (fun _ _ _ _ _ => C_law_sum.call hG (hr.mono (by decide)) rfl (da_cons (d_tup (da_cons (d_dget (hu_of hr) (d_var 1) (d_tup (da_cons (d_var 5) (da_cons (d_var 3) (da_nil)))) (fun _ _ => rfl)) (da_cons (d_dget (hu_of hr) (d_var 1) (d_tup (da_cons (d_var 2) (da_cons (d_var 6) (da_nil)))) (fun _ _ => rfl)) (da_cons (d_dget (hu_of hr) (d_var 1) (d_tup (da_cons (d_var 5) (da_cons (d_var 6) (da_nil)))) (fun _ _ => rfl)) (da_nil))))) (da_nil)))) (da_nil)))))) (ds_frz (ds_one (d_setI (C_law_least.call hG (hr.mono (by decide)) rfl (da_cons (d_var 4) (da_nil))) (d_var 1) (d_tup (da_cons (d_var 2) (da_cons (d_var 3) (da_nil)))) (s_setI (hu_of hr)))))))))) (ds_one (d_ret (d_var 1))))
theorem cal_law_table {f : Addr} {fd : FuncData} (F : FunD K "_law_table" "_law_table" (defArgs st_law_table) (defBody st_law_table) (defScope st_law_table) [] [] f fd) (hm : mg "_law_table" = some (.ref f)) (G : FnG P w K mg base CX0 2 f fd ["many"] (spD K 1 F_law_table)) : Cal P w K mg base 2 "_law_table" 1 F_law_table := Cal.of F hm G rfl (fun _ _ _ _ _ _ us hl => match us, hl with | [_], _ => rfl)
/-! ### is_heap -/
abbrev st_is_heap : Stmt := top 11
abbrev N_is_heap : List Str := ["value"]
theorem sc_is_heap : FnScope N_is_heap ["value"] (defScope st_is_heap) := ⟨rfl, rfl, rfl, by decide +kernel, rfl, by decide +kernel, by decide +kernel⟩
def b_is_heap : MS := mRet (mCallF 3 F_is_between (mCons (mVar 0) (mCons (mInt 0) (mCons (mC (.d (.int 255))) (mNil)))))
def F_is_heap : Fn := fnD 1 b_is_heap
theorem ok_is_heap {f : Addr} {fd : FuncData} (F : FunD K "is_heap" "is_heap" (defArgs st_is_heap) (defBody st_is_heap) (defScope st_is_heap) [] [] f fd) (T : Tx K mg) (C_is_between : Cal P w K mg base 2 "is_between" 3 F_is_between) : FnG P w K mg base CX0 3 f fd ["value"] (spD K 1 F_is_heap) := by
  refine fn_mk F (k := 2) sc_is_heap rfl rfl (b := b_is_heap) fun cdv A outer s H E hG hr => ?_
  have nd := sc_is_heap.nd
  exact ds_one (d_ret (C_is_between.call hG (hr.mono (by decide)) rfl (da_cons (d_var 0) (da_cons (d_int) (da_cons ((T.c_MOST_HEAP.name rfl)) (da_nil))))))
theorem cal_is_heap {f : Addr} {fd : FuncData} (F : FunD K "is_heap" "is_heap" (defArgs st_is_heap) (defBody st_is_heap) (defScope st_is_heap) [] [] f fd) (hm : mg "is_heap" = some (.ref f)) (G : FnG P w K mg base CX0 3 f fd ["value"] (spD K 1 F_is_heap)) : Cal P w K mg base 3 "is_heap" 1 F_is_heap := Cal.of F hm G rfl (fun _ _ _ _ _ _ us hl => match us, hl with | [_], _ => rfl)
/-! ### check_heap -/
abbrev st_check_heap : Stmt := top 12
abbrev N_check_heap : List Str := ["value"]
theorem sc_check_heap : FnScope N_check_heap ["value"] (defScope st_check_heap) := ⟨rfl, rfl, rfl, by decide +kernel, rfl, by decide +kernel, by decide +kernel⟩
def b_check_heap : MS := mIfS (mNotT (mB (mCallF 1 F_is_heap (mCons (mVar 0) (mNil))))) ((fun _ _ => none)) (mSkip)
def F_check_heap : Fn := fnD 1 b_check_heap
theorem ok_check_heap {f : Addr} {fd : FuncData} (F : FunD K "check_heap" "check_heap" (defArgs st_check_heap) (defBody st_check_heap) (defScope st_check_heap) [] [] f fd) (C_is_heap : Cal P w K mg base 3 "is_heap" 1 F_is_heap) : FnG P w K mg base CX0 4 f fd ["value"] (spD K 1 F_check_heap) := by
  refine fn_mk F (k := 3) sc_check_heap rfl rfl (b := b_check_heap) fun cdv A outer s H E hG hr => ?_
  have nd := sc_check_heap.nd
  exact ds_one (d_ifS (d_notT (d_valT (C_is_heap.call hG (hr.mono (by decide)) rfl (da_cons (d_var 0) (da_nil))))) (ds_one (d_never)) (ds_nil))
theorem cal_check_heap {f : Addr} {fd : FuncData} (F : FunD K "check_heap" "check_heap" (defArgs st_check_heap) (defBody st_check_heap) (defScope st_check_heap) [] [] f fd) (hm : mg "check_heap" = some (.ref f)) (G : FnG P w K mg base CX0 4 f fd ["value"] (spD K 1 F_check_heap)) : Cal P w K mg base 4 "check_heap" 1 F_check_heap := Cal.of F hm G rfl (fun _ _ _ _ _ _ us hl => match us, hl with | [_], _ => rfl)
/-! ### sum_of -/
abbrev st_sum_of : Stmt := top 15
abbrev N_sum_of : List Str := ["heaps", "heap"]
theorem sc_sum_of : FnScope N_sum_of ["heaps"] (defScope st_sum_of) := ⟨rfl, rfl, rfl, by decide +kernel, rfl, by decide +kernel, by decide +kernel⟩
def s_sum_of_0 : MS := mIfS (mOrT (mNotT (mB (mCall (pure2 vIsi) (mCons (mVar 0) (mCons (mC (.v (.ty "tuple"))) (mNil)))))) (mOrT (mB (mBin vGt (mCall (pure1 vLen) (mCons (mVar 0) (mNil))) (mC (.d (.int 40))))) (mNotT (mB (mCall (pure1 vAll) (mCons (mComp (iS (mVar 0)) (gN 1) (mYes) (mCallF 1 F_is_heap (mCons (mVar 1) (mNil))) [1]) (mNil))))))) ((fun _ _ => none)) (mSkip)
def s_sum_of_1 : MS := mRet (mCallF 1 F_sum_by (mCons (mVar 0) (mNil)))
def b_sum_of : MS := mSeq (s_sum_of_0) (s_sum_of_1)
def F_sum_of : Fn := fnD 2 b_sum_of
theorem ok_sum_of {f : Addr} {fd : FuncData} (F : FunD K "sum_of" "sum_of" (defArgs st_sum_of) (defBody st_sum_of) (defScope st_sum_of) [] [] f fd) (T : Tx K mg) (C_is_heap : Cal P w K mg base 3 "is_heap" 1 F_is_heap) (C_sum_by : Cal P w K mg base 1 "sum_by" 1 F_sum_by) : FnG P w K mg base CX0 4 f fd ["heaps"] (spD K 1 F_sum_of) := by
  refine fn_mk F (k := 3) sc_sum_of rfl rfl (b := b_sum_of) fun cdv A outer s H E hG hr => ?_
  have nd := sc_sum_of.nd
  exact ds_cons (d_ifS (d_w (d_orT (d_notT (d_valT (d_callB (c_isi) rfl T.f_isinstance b_isinstance (da_cons (d_var 0) (da_cons (d_type rfl T.f_tuple b_tuple) (da_nil)))))) (d_orT (d_cmpT o_gt (d_callB (c_len) rfl T.f_len b_len (da_cons (d_var 0) (da_nil))) ((T.c_MOST_HEAPS.name rfl)) (nomark _)) (d_or1 (d_notT (d_valT (d_callB (c_all rfl) rfl T.f_all b_all (da_cons (d_comp [("heap", 1)] rfl nd (di_seq (d_var 0)) (blkOk_by (by kernel_rfl)) (fun _ _ _ _ _ => dgc_name 1 nd (.inl rfl) rfl (by decide) (.inr rfl)) (fun _ _ _ _ _ => dts_nil) (fun _ _ _ _ _ => C_is_heap.call hG (hr.mono (by decide)) rfl (da_cons (d_var 1) (da_nil)))) (da_nil))))))))) (ds_one (d_never)) (ds_nil)) (ds_one (d_ret (C_sum_by.call hG (hr.mono (by decide)) rfl (da_cons (d_var 0) (da_nil)))))
theorem cal_sum_of {f : Addr} {fd : FuncData} (F : FunD K "sum_of" "sum_of" (defArgs st_sum_of) (defBody st_sum_of) (defScope st_sum_of) [] [] f fd) (hm : mg "sum_of" = some (.ref f)) (G : FnG P w K mg base CX0 4 f fd ["heaps"] (spD K 1 F_sum_of)) : Cal P w K mg base 4 "sum_of" 1 F_sum_of := Cal.of F hm G rfl (fun _ _ _ _ _ _ us hl => match us, hl with | [_], _ => rfl)
theorem kw_1 {f : Addr} {fd : FuncData} (F : FunD K "sum_of" "sum_of" (defArgs st_sum_of) (defBody st_sum_of) (defScope st_sum_of) [] [] f fd) (hm : mg "sum_of" = some (.ref f)) (G : FnG P w K mg base CX0 4 f fd ["heaps"] (spD K 1 F_sum_of)) : CalK P w K mg base 4 "sum_of" 1 F_sum_of ["heaps"] [0] :=
  CalK.of F hm G rfl fun _ _ _ _ _ _ ws hl => match ws, hl with | [], hl => absurd hl (by simp [permL]) | _ :: _, _ => rfl
/-! ### check_two -/
abbrev st_check_two : Stmt := top 13
abbrev N_check_two : List Str := ["one", "other"]
theorem sc_check_two : FnScope N_check_two ["one", "other"] (defScope st_check_two) := ⟨rfl, rfl, rfl, by decide +kernel, rfl, by decide +kernel, by decide +kernel⟩
def s_check_two_0 : MS := mExpr (mCallF 1 F_check_heap (mCons (mVar 0) (mNil)))
def s_check_two_1 : MS := mExpr (mCallF 1 F_check_heap (mCons (mVar 1) (mNil)))
def b_check_two : MS := mSeq (s_check_two_0) (s_check_two_1)
def F_check_two : Fn := fnD 2 b_check_two
theorem ok_check_two {f : Addr} {fd : FuncData} (F : FunD K "check_two" "check_two" (defArgs st_check_two) (defBody st_check_two) (defScope st_check_two) [] [] f fd) (C_check_heap : Cal P w K mg base 4 "check_heap" 1 F_check_heap) : FnG P w K mg base CX0 5 f fd ["one", "other"] (spD K 2 F_check_two) := by
  refine fn_mk F (k := 4) sc_check_two rfl rfl (b := b_check_two) fun cdv A outer s H E hG hr => ?_
  have nd := sc_check_two.nd
  exact ds_cons (d_expr (C_check_heap.call hG (hr.mono (by decide)) rfl (da_cons (d_var 0) (da_nil)))) (ds_one (d_expr (C_check_heap.call hG (hr.mono (by decide)) rfl (da_cons (d_var 1) (da_nil)))))
theorem cal_check_two {f : Addr} {fd : FuncData} (F : FunD K "check_two" "check_two" (defArgs st_check_two) (defBody st_check_two) (defScope st_check_two) [] [] f fd) (hm : mg "check_two" = some (.ref f)) (G : FnG P w K mg base CX0 5 f fd ["one", "other"] (spD K 2 F_check_two)) : Cal P w K mg base 5 "check_two" 2 F_check_two := Cal.of F hm G rfl (fun _ _ _ _ _ _ us hl => match us, hl with | [_, _], _ => rfl)
/-! ### product -/
abbrev st_product : Stmt := top 17
abbrev N_product : List Str := ["one", "other"]
theorem sc_product : FnScope N_product ["one", "other"] (defScope st_product) := ⟨rfl, rfl, rfl, by decide +kernel, rfl, by decide +kernel, by decide +kernel⟩
def s_product_0 : MS := mExpr (mCallF 2 F_check_two (mCons (mVar 0) (mCons (mVar 1) (mNil))))
def s_product_1 : MS := mRet (mCallF 2 (F_times 6) (mCons (mVar 0) (mCons (mVar 1) (mNil))))
def b_product : MS := mSeq (s_product_0) (s_product_1)
def F_product : Fn := fnD 2 b_product
theorem ok_product {f : Addr} {fd : FuncData} (F : FunD K "product" "product" (defArgs st_product) (defBody st_product) (defScope st_product) [] [] f fd) (C_check_two : Cal P w K mg base 5 "check_two" 2 F_check_two) (C_times : Cal P w K mg base 7 "times" 2 (F_times 6)) : FnG P w K mg base CX0 8 f fd ["one", "other"] (spD K 2 F_product) := by
  refine fn_mk F (k := 7) sc_product rfl rfl (b := b_product) fun cdv A outer s H E hG hr => ?_
  have nd := sc_product.nd
  exact ds_cons (d_expr (C_check_two.call hG (hr.mono (by decide)) rfl (da_cons (d_var 0) (da_cons (d_var 1) (da_nil))))) (ds_one (d_ret (C_times.call hG (hr.mono (by decide)) rfl (da_cons (d_var 0) (da_cons (d_var 1) (da_nil))))))
theorem cal_product {f : Addr} {fd : FuncData} (F : FunD K "product" "product" (defArgs st_product) (defBody st_product) (defScope st_product) [] [] f fd) (hm : mg "product" = some (.ref f)) (G : FnG P w K mg base CX0 8 f fd ["one", "other"] (spD K 2 F_product)) : Cal P w K mg base 8 "product" 2 F_product := Cal.of F hm G rfl (fun _ _ _ _ _ _ us hl => match us, hl with | [_, _], _ => rfl)
theorem kw_0 {f : Addr} {fd : FuncData} (F : FunD K "product" "product" (defArgs st_product) (defBody st_product) (defScope st_product) [] [] f fd) (hm : mg "product" = some (.ref f)) (G : FnG P w K mg base CX0 8 f fd ["one", "other"] (spD K 2 F_product)) : CalK P w K mg base 8 "product" 2 F_product ["one", "other"] [0, 1] :=
  CalK.of F hm G rfl fun _ _ _ _ _ _ ws hl => match ws, hl with | [], hl => absurd hl (by simp [permL]) | [_], hl => absurd hl (by simp [permL]) | _ :: _ :: _, _ => rfl
/-! ### square -/
abbrev st_square : Stmt := top 18
abbrev N_square : List Str := ["one"]
theorem sc_square : FnScope N_square ["one"] (defScope st_square) := ⟨rfl, rfl, rfl, by decide +kernel, rfl, by decide +kernel, by decide +kernel⟩
def s_square_0 : MS := mExpr (mCallF 1 F_check_heap (mCons (mVar 0) (mNil)))
def s_square_1 : MS := mRet (mCallF 2 (F_times 6) (mCons (mVar 0) (mCons (mVar 0) (mNil))))
def b_square : MS := mSeq (s_square_0) (s_square_1)
def F_square : Fn := fnD 1 b_square
theorem ok_square {f : Addr} {fd : FuncData} (F : FunD K "square" "square" (defArgs st_square) (defBody st_square) (defScope st_square) [] [] f fd) (C_check_heap : Cal P w K mg base 4 "check_heap" 1 F_check_heap) (C_times : Cal P w K mg base 7 "times" 2 (F_times 6)) : FnG P w K mg base CX0 8 f fd ["one"] (spD K 1 F_square) := by
  refine fn_mk F (k := 7) sc_square rfl rfl (b := b_square) fun cdv A outer s H E hG hr => ?_
  have nd := sc_square.nd
  exact ds_cons (d_expr (C_check_heap.call hG (hr.mono (by decide)) rfl (da_cons (d_var 0) (da_nil)))) (ds_one (d_ret (C_times.call hG (hr.mono (by decide)) rfl (da_cons (d_var 0) (da_cons (d_var 0) (da_nil))))))
theorem cal_square {f : Addr} {fd : FuncData} (F : FunD K "square" "square" (defArgs st_square) (defBody st_square) (defScope st_square) [] [] f fd) (hm : mg "square" = some (.ref f)) (G : FnG P w K mg base CX0 8 f fd ["one"] (spD K 1 F_square)) : Cal P w K mg base 8 "square" 1 F_square := Cal.of F hm G rfl (fun _ _ _ _ _ _ us hl => match us, hl with | [_], _ => rfl)
theorem kw_2 {f : Addr} {fd : FuncData} (F : FunD K "square" "square" (defArgs st_square) (defBody st_square) (defScope st_square) [] [] f fd) (hm : mg "square" = some (.ref f)) (G : FnG P w K mg base CX0 8 f fd ["one"] (spD K 1 F_square)) : CalK P w K mg base 8 "square" 1 F_square ["one"] [0] :=
  CalK.of F hm G rfl fun _ _ _ _ _ _ ws hl => match ws, hl with | [], hl => absurd hl (by simp [permL]) | _ :: _, _ => rfl
/-! ### _law_is_small_right -/
abbrev st_law_is_small_right : Stmt := top 27
abbrev N_law_is_small_right : List Str := ["table", "x", "y"]
theorem sc_law_is_small_right : FnScope N_law_is_small_right [] (defScope st_law_is_small_right) := ⟨rfl, rfl, rfl, by decide +kernel, rfl, by decide +kernel, by decide +kernel⟩
def s_law_is_small_right_0 : MS := mAsg 0 (mCallF 1 F_law_table (mCons (mInt 10) (mNil)))
def s_law_is_small_right_1 : MS := mLock 0 (mRet (mCall (pure1 vAll) (mCons (mComp (iK (mVar 0)) (gTup 2 (gCons (gN 1) (gCons (gN 2) (gNil)))) (mYes) (mBin vEq (mCall (pure1 vRepr) (mCons (mCallK [0, 1] 2 F_product (mCons (mVar 1) (mCons (mVar 2) (mNil)))) (mNil))) (mCall (pure1 vRepr) (mCons (mBin vDGet (mVar 0) (mTup (mCons (mVar 1) (mCons (mVar 2) (mNil))))) (mNil)))) [1, 2]) (mNil))))
def b_law_is_small_right : MS := mSeq (s_law_is_small_right_0) (mSeq (mFrzV 0) (s_law_is_small_right_1))
def F_law_is_small_right : Fn := fnD 3 b_law_is_small_right
theorem ok_law_is_small_right {f : Addr} {fd : FuncData} (F : FunD K "_law_is_small_right" "_law_is_small_right" (defArgs st_law_is_small_right) (defBody st_law_is_small_right) (defScope st_law_is_small_right) [] [] f fd) (T : Tx K mg) (C_law_table : Cal P w K mg base 2 "_law_table" 1 F_law_table) (KC0 : CalK P w K mg base 8 "product" 2 F_product ["one", "other"] [0, 1]) : FnG P w K mg base CX0 9 f fd [] (spD K 0 F_law_is_small_right) := by
  refine fn_mk F (k := 8) sc_law_is_small_right rfl rfl (b := b_law_is_small_right) fun cdv A outer s H E hG hr => ?_
  have nd := sc_law_is_small_right.nd
  exact ds_cons (d_set 0 nd (.inr rfl) (C_law_table.call hG (hr.mono (by decide)) rfl (da_cons (d_int) (da_nil)))) (ds_frz (ds_one (d_lock 0 (d_ret (d_callB (c_all rfl) rfl T.f_all b_all (da_cons (d_comp [("x", 1), ("y", 2)] rfl nd (di_keys (d_var 0)) (blkOk_by (by kernel_rfl)) (fun _ _ _ _ _ => dgc_tup rfl (dgcs_cons (dgc_name 1 nd (.inl rfl) rfl (by decide) (.inr rfl)) (dgcs_cons (dgc_name 2 nd (.inl rfl) rfl (by decide) (.inr rfl)) (dgcs_nil)))) (fun _ _ _ _ _ => dts_nil) (fun _ _ _ _ _ => d_cmp (o_eq hr.units) (d_callB (c_repr hG (u66 hr)) rfl T.f_repr b_repr (da_cons (KC0.callK hG (hr.mono (by decide)) rfl (dk_cons (d_var 1) (dk_cons (d_var 2) (dk_nil)))) (da_nil))) (d_callB (c_repr hG (u66 hr)) rfl T.f_repr b_repr (da_cons (d_dget (hu_of hr) (d_var 0) (d_tup (da_cons (d_var 1) (da_cons (d_var 2) (da_nil)))) (fun _ _ => rfl)) (da_nil))) (nomark _))) (da_nil)))))))
theorem cal_law_is_small_right {f : Addr} {fd : FuncData} (F : FunD K "_law_is_small_right" "_law_is_small_right" (defArgs st_law_is_small_right) (defBody st_law_is_small_right) (defScope st_law_is_small_right) [] [] f fd) (hm : mg "_law_is_small_right" = some (.ref f)) (G : FnG P w K mg base CX0 9 f fd [] (spD K 0 F_law_is_small_right)) : Cal P w K mg base 9 "_law_is_small_right" 0 F_law_is_small_right := Cal.of F hm G rfl (fun _ _ _ _ _ _ us hl => match us, hl with | [], _ => rfl)
/-! ### _law_are_three_right -/
abbrev st_law_are_three_right : Stmt := top 28
abbrev N_law_are_three_right : List Str := ["x", "y", "z", "both"]
theorem sc_law_are_three_right : FnScope N_law_are_three_right ["x", "y", "z"] (defScope st_law_are_three_right) := ⟨rfl, rfl, rfl, by decide +kernel, rfl, by decide +kernel, by decide +kernel⟩
def s_law_are_three_right_0 : MS := mAsg 3 (mCallK [0] 1 F_sum_of (mCons (mTup (mCons (mVar 1) (mCons (mVar 2) (mNil)))) (mNil)))
def s_law_are_three_right_1 : MS := mIfS (mOrT (mB (mBin vNe (mCall (pure1 vRepr) (mCons (mVar 3) (mNil))) (mCall (pure1 vRepr) (mCons (mCallF 1 F_law_sum (mCons (mTup (mCons (mVar 1) (mCons (mVar 2) (mNil)))) (mNil))) (mNil))))) (mB (mBin vNe (mCall (pure1 vRepr) (mCons (mCallF 2 F_product (mCons (mVar 0) (mCons (mVar 3) (mNil)))) (mNil))) (mCall (pure1 vRepr) (mCons (mCallF 1 F_law_sum (mCons (mTup (mCons (mCallF 2 F_product (mCons (mVar 0) (mCons (mVar 1) (mNil)))) (mCons (mCallF 2 F_product (mCons (mVar 0) (mCons (mVar 2) (mNil)))) (mNil)))) (mNil))) (mNil)))))) (mRet (mBool false)) (mSkip)
def s_law_are_three_right_2 : MS := mIfS (mOrT (mB (mBin vNe (mCallF 2 F_product (mCons (mVar 0) (mCons (mVar 1) (mNil)))) (mCallF 2 F_product (mCons (mVar 1) (mCons (mVar 0) (mNil)))))) (mB (mBin vNe (mCallF 2 F_product (mCons (mCallF 2 F_product (mCons (mVar 0) (mCons (mVar 1) (mNil)))) (mCons (mVar 2) (mNil)))) (mCallF 2 F_product (mCons (mVar 0) (mCons (mCallF 2 F_product (mCons (mVar 1) (mCons (mVar 2) (mNil)))) (mNil))))))) (mRet (mBool false)) (mSkip)
def s_law_are_three_right_3 : MS := mIfS (mOrT (mB (mBin vNe (mCall (pure1 vRepr) (mCons (mCallF 2 F_product (mCons (mVar 0) (mCons (mInt 1) (mNil)))) (mNil))) (mCall (pure1 vRepr) (mCons (mVar 0) (mNil))))) (mOrT (mB (mBin vNe (mCall (pure1 vRepr) (mCons (mCallF 2 F_product (mCons (mInt 0) (mCons (mVar 0) (mNil)))) (mNil))) (mStr "0"))) (mB (mBin vNe (mCall (pure1 vRepr) (mCons (mCallK [0] 1 F_square (mCons (mVar 0) (mNil))) (mNil))) (mCall (pure1 vRepr) (mCons (mCallF 2 F_product (mCons (mVar 0) (mCons (mVar 0) (mNil)))) (mNil))))))) (mRet (mBool false)) (mSkip)
def s_law_are_three_right_4 : MS := mIfS (mB (mBin vNe (mCallF 1 F_square (mCons (mVar 3) (mNil))) (mCallF 1 F_law_sum (mCons (mTup (mCons (mCallF 1 F_square (mCons (mVar 1) (mNil))) (mCons (mCallF 1 F_square (mCons (mVar 2) (mNil))) (mNil)))) (mNil))))) (mRet (mBool false)) (mSkip)
def s_law_are_three_right_5 : MS := mRet (mBin vEq (mBin vEq (mCallF 2 F_product (mCons (mVar 0) (mCons (mVar 1) (mNil)))) (mInt 0)) (mOr (mBin vEq (mVar 0) (mInt 0)) (mBin vEq (mVar 1) (mInt 0))))
def b_law_are_three_right : MS := mSeq (s_law_are_three_right_0) (mSeq (s_law_are_three_right_1) (mSeq (s_law_are_three_right_2) (mSeq (s_law_are_three_right_3) (mSeq (s_law_are_three_right_4) (s_law_are_three_right_5)))))
def F_law_are_three_right : Fn := fnD 4 b_law_are_three_right
theorem ok_law_are_three_right {f : Addr} {fd : FuncData} (F : FunD K "_law_are_three_right" "_law_are_three_right" (defArgs st_law_are_three_right) (defBody st_law_are_three_right) (defScope st_law_are_three_right) [] [] f fd) (T : Tx K mg) (C_law_sum : Cal P w K mg base 1 "_law_sum" 1 F_law_sum) (C_product : Cal P w K mg base 8 "product" 2 F_product) (C_square : Cal P w K mg base 8 "square" 1 F_square) (KC1 : CalK P w K mg base 4 "sum_of" 1 F_sum_of ["heaps"] [0]) (KC2 : CalK P w K mg base 8 "square" 1 F_square ["one"] [0]) : FnG P w K mg base CX0 9 f fd ["x", "y", "z"] (spD K 3 F_law_are_three_right) := by
  refine fn_mk F (k := 8) sc_law_are_three_right rfl rfl (b := b_law_are_three_right) fun cdv A outer s H E hG hr => ?_
  have nd := sc_law_are_three_right.nd
  exact ds_cons (d_set 3 nd (.inl rfl) (KC1.callK hG (hr.mono (by decide)) rfl (dk_cons (d_tup (da_cons (d_var 1) (da_cons (d_var 2) (da_nil)))) (dk_nil)))) (ds_cons (d_ifS (d_w (d_orT (d_cmpT (o_ne hr.units) (d_callB (c_repr hG (u66 hr)) rfl T.f_repr b_repr (da_cons (d_var 3) (da_nil))) (d_callB (c_repr hG (u66 hr)) rfl T.f_repr b_repr (da_cons (C_law_sum.call hG (hr.mono (by decide)) rfl (da_cons (d_tup (da_cons (d_var 1) (da_cons (d_var 2) (da_nil)))) (da_nil))) (da_nil))) (nomark _)) (d_or1 (d_cmpT (o_ne hr.units) (d_callB (c_repr hG (u66 hr)) rfl T.f_repr b_repr (da_cons (C_product.call hG (hr.mono (by decide)) rfl (da_cons (d_var 0) (da_cons (d_var 3) (da_nil)))) (da_nil))) (d_callB (c_repr hG (u66 hr)) rfl T.f_repr b_repr (da_cons (C_law_sum.call hG (hr.mono (by decide)) rfl (da_cons (d_tup (da_cons (C_product.call hG (hr.mono (by decide)) rfl (da_cons (d_var 0) (da_cons (d_var 1) (da_nil)))) (da_cons (C_product.call hG (hr.mono (by decide)) rfl (da_cons (d_var 0) (da_cons (d_var 2) (da_nil)))) (da_nil)))) (da_nil))) (da_nil))) (nomark _))))) (ds_one (d_ret (d_bool))) (ds_nil)) (ds_cons (d_ifS (d_w (d_orT (d_cmpT (o_ne hr.units) (C_product.call hG (hr.mono (by decide)) rfl (da_cons (d_var 0) (da_cons (d_var 1) (da_nil)))) (C_product.call hG (hr.mono (by decide)) rfl (da_cons (d_var 1) (da_cons (d_var 0) (da_nil)))) (nomark _)) (d_or1 (d_cmpT (o_ne hr.units) (C_product.call hG (hr.mono (by decide)) rfl (da_cons (C_product.call hG (hr.mono (by decide)) rfl (da_cons (d_var 0) (da_cons (d_var 1) (da_nil)))) (da_cons (d_var 2) (da_nil)))) (C_product.call hG (hr.mono (by decide)) rfl (da_cons (d_var 0) (da_cons (C_product.call hG (hr.mono (by decide)) rfl (da_cons (d_var 1) (da_cons (d_var 2) (da_nil)))) (da_nil)))) (nomark _))))) (ds_one (d_ret (d_bool))) (ds_nil)) (ds_cons (d_ifS (d_w (d_orT (d_cmpT (o_ne hr.units) (d_callB (c_repr hG (u66 hr)) rfl T.f_repr b_repr (da_cons (C_product.call hG (hr.mono (by decide)) rfl (da_cons (d_var 0) (da_cons (d_int) (da_nil)))) (da_nil))) (d_callB (c_repr hG (u66 hr)) rfl T.f_repr b_repr (da_cons (d_var 0) (da_nil))) (nomark _)) (d_orT (d_cmpT (o_ne hr.units) (d_callB (c_repr hG (u66 hr)) rfl T.f_repr b_repr (da_cons (C_product.call hG (hr.mono (by decide)) rfl (da_cons (d_int) (da_cons (d_var 0) (da_nil)))) (da_nil))) (d_str) (nomark _)) (d_or1 (d_cmpT (o_ne hr.units) (d_callB (c_repr hG (u66 hr)) rfl T.f_repr b_repr (da_cons (KC2.callK hG (hr.mono (by decide)) rfl (dk_cons (d_var 0) (dk_nil))) (da_nil))) (d_callB (c_repr hG (u66 hr)) rfl T.f_repr b_repr (da_cons (C_product.call hG (hr.mono (by decide)) rfl (da_cons (d_var 0) (da_cons (d_var 0) (da_nil)))) (da_nil))) (nomark _)))))) (ds_one (d_ret (d_bool))) (ds_nil)) (ds_cons (d_ifS (d_cmpT (o_ne hr.units) (C_square.call hG (hr.mono (by decide)) rfl (da_cons (d_var 3) (da_nil))) (C_law_sum.call hG (hr.mono (by decide)) rfl (da_cons (d_tup (da_cons (C_square.call hG (hr.mono (by decide)) rfl (da_cons (d_var 1) (da_nil))) (da_cons (C_square.call hG (hr.mono (by decide)) rfl (da_cons (d_var 2) (da_nil))) (da_nil)))) (da_nil))) (nomark _)) (ds_one (d_ret (d_bool))) (ds_nil)) (ds_one (d_ret (d_cmp (o_eq hr.units) (d_cmp (o_eq hr.units) (C_product.call hG (hr.mono (by decide)) rfl (da_cons (d_var 0) (da_cons (d_var 1) (da_nil)))) (d_int) (nomark _)) (d_or (d_cmp (o_eq hr.units) (d_var 0) (d_int) (nomark _)) (d_one (d_cmp (o_eq hr.units) (d_var 1) (d_int) (nomark _)))) (nomark _))))))))
theorem cal_law_are_three_right {f : Addr} {fd : FuncData} (F : FunD K "_law_are_three_right" "_law_are_three_right" (defArgs st_law_are_three_right) (defBody st_law_are_three_right) (defScope st_law_are_three_right) [] [] f fd) (hm : mg "_law_are_three_right" = some (.ref f)) (G : FnG P w K mg base CX0 9 f fd ["x", "y", "z"] (spD K 3 F_law_are_three_right)) : Cal P w K mg base 9 "_law_are_three_right" 3 F_law_are_three_right := Cal.of F hm G rfl (fun _ _ _ _ _ _ us hl => match us, hl with | [_, _, _], _ => rfl)
/-! ### _law_right -/
abbrev st_law_right : Stmt := top 29
abbrev N_law_right : List Str := ["pot", "lap", "part", "x", "y", "z", "low", "high", "heaps", "closed", "number", "turn", "value"]
theorem sc_law_right : FnScope N_law_right ["pot"] (defScope st_law_right) := ⟨rfl, rfl, rfl, by decide +kernel, rfl, by decide +kernel, by decide +kernel⟩
def s_law_right_0 : MS := mIfS (mNotT (mB (mCallF 0 F_law_is_small_right mNil))) (mRet (mBool false)) (mSkip)
def s_law_right_1 : MS := mAsgG (gLstU 3 (gCons (gN 3) (gCons (gN 4) (gCons (gN 5) (gNil))))) (mComp (iR1 (mCons (mInt 3) (mNil))) (gN 11) (mYes) (mCall (pure1 vInt) (mCons (mCallF 2 F_law_take (mCons (mVar 0) (mCons (mInt 256) (mNil)))) (mNil))) [11])
def s_law_right_2 : MS := mIfS (mNotT (mB (mCallF 3 F_law_are_three_right (mCons (mVar 3) (mCons (mVar 4) (mCons (mVar 5) (mNil))))))) (mRet (mBool false)) (mSkip)
def s_law_right_3 : MS := mPar2 6 7 (mCons (mCall (pure1 vInt) (mCons (mBin vMod (mVar 3) (mVar 2)) (mNil))) (mCons (mCall (pure1 vInt) (mCons (mBin vMod (mVar 4) (mVar 2)) (mNil))) (mNil)))
def s_law_right_4 : MS := mIfS (mOrT (mB (mBin vNe (mCall (pure1 vRepr) (mCons (mCallF 2 F_product (mCons (mVar 2) (mCons (mVar 6) (mNil)))) (mNil))) (mCall (pure1 vRepr) (mCons (mBin vMul (mVar 2) (mVar 6)) (mNil))))) (mB (mBin vNe (mCall (pure1 vRepr) (mCons (mCallF 1 F_square (mCons (mVar 2) (mNil))) (mNil))) (mCall (pure1 vRepr) (mCons (mBin vAdd (mVar 2) (mBin vFdiv (mVar 2) (mInt 2))) (mNil)))))) (mRet (mBool false)) (mSkip)
def s_law_right_5 : MS := mIfS (mOrT (mB (mBin vGe (mCallF 2 F_product (mCons (mVar 6) (mCons (mVar 7) (mNil)))) (mVar 2))) (mB (mBin vGe (mCallF 1 F_sum_of (mCons (mTup (mCons (mVar 6) (mCons (mVar 7) (mNil)))) (mNil))) (mVar 2)))) (mRet (mBool false)) (mSkip)
def l_law_right_6 : MS := mSeq (s_law_right_3) (mSeq (s_law_right_4) (s_law_right_5))
def s_law_right_7 : MS := mFor (iT (mTup (mCons (mInt 2) (mCons (mInt 4) (mCons (mInt 16) (mNil)))))) (gN 2) (l_law_right_6)
def l_law_right_8 : MS := mSeq (s_law_right_1) (mSeq (s_law_right_2) (s_law_right_7))
def s_law_right_9 : MS := mFor (iR1 (mCons (mInt 12) (mNil))) (gN 1) (l_law_right_8)
def s_law_right_10 : MS := mAsg 8 (mCall (pure1 vTuple) (mCons (mComp (iR1 (mCons (mCallF 2 F_law_take (mCons (mVar 0) (mCons (mInt 41) (mNil)))) (mNil))) (gN 1) (mYes) (mCall (pure1 vInt) (mCons (mCallF 2 F_law_take (mCons (mVar 0) (mCons (mInt 256) (mNil)))) (mNil))) [1]) (mNil)))
def s_law_right_11 : MS := mIfS (mOrT (mB (mBin vNe (mCall (pure1 vRepr) (mCons (mCallK [0] 1 F_sum_of (mCons (mVar 8) (mNil))) (mNil))) (mCall (pure1 vRepr) (mCons (mCallF 1 F_law_sum (mCons (mVar 8) (mNil))) (mNil))))) (mB (mBin vNe (mCallF 1 F_sum_of (mCons (mBin vAdd (mCut (mVar 8) (mNoP) (mP (mInt 20))) (mCut (mVar 8) (mNoP) (mP (mInt 20)))) (mNil))) (mInt 0)))) (mRet (mBool false)) (mSkip)
def s_law_right_12 : MS := mAsg 9 (mComp (iR2 (mCons (mUn vNeg (mInt 1)) (mCons (mInt 260) (mNil)))) (gN 10) (mB (mBin vIsB (mCallK [0] 1 F_is_closed (mCons (mVar 10) (mNil))) (mBool true))) (mVar 10) [10])
def s_law_right_13 : MS := mRet (mAnd (mBin vEq (mVar 9) (mLst (mCons (mInt 1) (mCons (mInt 2) (mCons (mInt 4) (mCons (mInt 16) (mCons (mInt 256) (mNil)))))))) (mNot (mCall (pure1 vAny) (mCons (mComp (iT (mTup (mCons (mNone) (mCons (mBool true) (mCons (mStr "2") (mCons (mTup (mCons (mInt 2) (mNil))) (mNil))))))) (gN 12) (mYes) (mCallF 1 F_is_closed (mCons (mVar 12) (mNil))) [12]) (mNil)))))
def b_law_right : MS := mSeq (s_law_right_0) (mSeq (s_law_right_9) (mSeq (s_law_right_10) (mSeq (s_law_right_11) (mSeq (s_law_right_12) (s_law_right_13)))))
def F_law_right : Fn := fnD 13 b_law_right
theorem ok_law_right {f : Addr} {fd : FuncData} (F : FunD K "_law_right" "_law_right" (defArgs st_law_right) (defBody st_law_right) (defScope st_law_right) [] [] f fd) (T : Tx K mg) (C_law_is_small_right : Cal P w K mg base 9 "_law_is_small_right" 0 F_law_is_small_right) (C_law_take : Cal P w K mg base 1 "_law_take" 2 F_law_take) (C_law_are_three_right : Cal P w K mg base 9 "_law_are_three_right" 3 F_law_are_three_right) (C_product : Cal P w K mg base 8 "product" 2 F_product) (C_square : Cal P w K mg base 8 "square" 1 F_square) (C_sum_of : Cal P w K mg base 4 "sum_of" 1 F_sum_of) (C_law_sum : Cal P w K mg base 1 "_law_sum" 1 F_law_sum) (C_is_closed : Cal P w K mg base 2 "is_closed" 1 F_is_closed) (KC1 : CalK P w K mg base 4 "sum_of" 1 F_sum_of ["heaps"] [0]) (KC3 : CalK P w K mg base 2 "is_closed" 1 F_is_closed ["number"] [0]) : FnG P w K mg base CX0 10 f fd ["pot"] (spD K 1 F_law_right) := by
  refine fn_mk F (k := 9) sc_law_right rfl rfl (b := b_law_right) fun cdv A outer s H E hG hr => ?_
  have nd := sc_law_right.nd
  exact ds_cons (d_ifS (d_notT (d_valT (C_law_is_small_right.call0 hG (hr.mono (by decide)) rfl))) (ds_one (d_ret (d_bool))) (ds_nil)) (ds_cons (d_for PassesOwn.never rfl (di_range1 rfl T.f_range (da_cons (d_int) (da_nil))) (dg_name 1 nd (.inl rfl)) (ds_cons (d_asg (d_comp [("turn", 11)] rfl nd (di_range1 rfl T.f_range (da_cons (d_int) (da_nil))) (blkOk_by (by kernel_rfl)) (fun _ _ _ _ _ => dgc_name 11 nd (.inl rfl) rfl (by decide) (.inr rfl)) (fun _ _ _ _ _ => dts_nil) (fun _ _ _ _ _ => d_callTy (c_int) rfl T.f_int b_int (da_cons (C_law_take.call hG (hr.mono (by decide)) rfl (da_cons (d_var 0) (da_cons (d_int) (da_nil)))) (da_nil)))) (dg_lst rfl (dgs_cons (dg_name 3 nd (.inl rfl)) (dgs_cons (dg_name 4 nd (.inl rfl)) (dgs_cons (dg_name 5 nd (.inl rfl)) (dgs_nil)))))) (ds_cons (d_ifS (d_notT (d_valT (C_law_are_three_right.call hG (hr.mono (by decide)) rfl (da_cons (d_var 3) (da_cons (d_var 4) (da_cons (d_var 5) (da_nil))))))) (ds_one (d_ret (d_bool))) (ds_nil)) (ds_one (d_for PassesOwn.never rfl (di_tup (d_tup (da_cons (d_int) (da_cons (d_int) (da_cons (d_int) (da_nil)))))) (dg_name 2 nd (.inl rfl)) (ds_cons (d_par2 6 7 rfl nd rfl rfl (da_cons (d_callTy (c_int) rfl T.f_int b_int (da_cons (d_bin o_mod (d_var 3) (d_var 2)) (da_nil))) (da_cons (d_callTy (c_int) rfl T.f_int b_int (da_cons (d_bin o_mod (d_var 4) (d_var 2)) (da_nil))) (da_nil))) rfl) (ds_cons (d_ifS (d_w (d_orT (d_cmpT (o_ne hr.units) (d_callB (c_repr hG (u66 hr)) rfl T.f_repr b_repr (da_cons (C_product.call hG (hr.mono (by decide)) rfl (da_cons (d_var 2) (da_cons (d_var 6) (da_nil)))) (da_nil))) (d_callB (c_repr hG (u66 hr)) rfl T.f_repr b_repr (da_cons (d_bin o_mul (d_var 2) (d_var 6)) (da_nil))) (nomark _)) (d_or1 (d_cmpT (o_ne hr.units) (d_callB (c_repr hG (u66 hr)) rfl T.f_repr b_repr (da_cons (C_square.call hG (hr.mono (by decide)) rfl (da_cons (d_var 2) (da_nil))) (da_nil))) (d_callB (c_repr hG (u66 hr)) rfl T.f_repr b_repr (da_cons (d_bin o_add (d_var 2) (d_bin o_fdiv (d_var 2) (d_int))) (da_nil))) (nomark _))))) (ds_one (d_ret (d_bool))) (ds_nil)) (ds_one (d_ifS (d_w (d_orT (d_cmpT o_ge (C_product.call hG (hr.mono (by decide)) rfl (da_cons (d_var 6) (da_cons (d_var 7) (da_nil)))) (d_var 2) (nomark _)) (d_or1 (d_cmpT o_ge (C_sum_of.call hG (hr.mono (by decide)) rfl (da_cons (d_tup (da_cons (d_var 6) (da_cons (d_var 7) (da_nil)))) (da_nil))) (d_var 2) (nomark _))))) (ds_one (d_ret (d_bool))) (ds_nil)))))))))) (ds_cons (d_set 8 nd (.inl rfl) (d_callTy (c_tuple) rfl T.f_tuple b_tuple (da_cons (d_comp [("lap", 1)] rfl nd (di_range1 rfl T.f_range (da_cons (C_law_take.call hG (hr.mono (by decide)) rfl (da_cons (d_var 0) (da_cons (d_int) (da_nil)))) (da_nil))) (blkOk_by (by kernel_rfl)) (fun _ _ _ _ _ => dgc_name 1 nd (.inl rfl) rfl (by decide) (.inr rfl)) (fun _ _ _ _ _ => dts_nil) (fun _ _ _ _ _ => d_callTy (c_int) rfl T.f_int b_int (da_cons (C_law_take.call hG (hr.mono (by decide)) rfl (da_cons (d_var 0) (da_cons (d_int) (da_nil)))) (da_nil)))) (da_nil)))) (ds_cons (d_ifS (d_w (d_orT (d_cmpT (o_ne hr.units) (d_callB (c_repr hG (u66 hr)) rfl T.f_repr b_repr (da_cons (KC1.callK hG (hr.mono (by decide)) rfl (dk_cons (d_var 8) (dk_nil))) (da_nil))) (d_callB (c_repr hG (u66 hr)) rfl T.f_repr b_repr (da_cons (C_law_sum.call hG (hr.mono (by decide)) rfl (da_cons (d_var 8) (da_nil))) (da_nil))) (nomark _)) (d_or1 (d_cmpT (o_ne hr.units) (C_sum_of.call hG (hr.mono (by decide)) rfl (da_cons (d_bin o_add (d_cut (d_var 8) (dp_none) (dp_some (d_int))) (d_cut (d_var 8) (dp_none) (dp_some (d_int)))) (da_nil))) (d_int) (nomark _))))) (ds_one (d_ret (d_bool))) (ds_nil)) (ds_cons (d_setComp 9 [("number", 10)] rfl nd rfl rfl (sw_true rfl rfl rfl (by decide +kernel)) (di_range2 rfl T.f_range (da_cons (d_un o_neg (d_int)) (da_cons (d_int) (da_nil)))) (blkOk_by (by kernel_rfl)) (fun _ _ _ _ _ => dgc_name 10 nd (.inl rfl) rfl (by decide) (.inr rfl)) (fun _ _ _ _ _ => dts_one (d_cmpT o_isB (KC3.callK hG (hr.mono (by decide)) rfl (dk_cons (d_var 10) (dk_nil))) (d_bool) (nomark _))) (fun _ _ _ _ _ => d_var 10)) (ds_one (d_ret (d_and (d_cmp (o_eq hr.units) (d_var 9) (d_lst (da_cons (d_int) (da_cons (d_int) (da_cons (d_int) (da_cons (d_int) (da_cons (d_int) (da_nil))))))) (nomark _)) (d_one (d_not (d_callB (c_any rfl) rfl T.f_any b_any (da_cons (d_comp [("value", 12)] rfl nd (di_tup (d_tup (da_cons (d_none) (da_cons (d_bool) (da_cons (d_str) (da_cons (d_tup (da_cons (d_int) (da_nil))) (da_nil))))))) (blkOk_by (by kernel_rfl)) (fun _ _ _ _ _ => dgc_name 12 nd (.inl rfl) rfl (by decide) (.inr rfl)) (fun _ _ _ _ _ => dts_nil) (fun _ _ _ _ _ => C_is_closed.call hG (hr.mono (by decide)) rfl (da_cons (d_var 12) (da_nil)))) (da_nil))))))))))))
theorem cal_law_right {f : Addr} {fd : FuncData} (F : FunD K "_law_right" "_law_right" (defArgs st_law_right) (defBody st_law_right) (defScope st_law_right) [] [] f fd) (hm : mg "_law_right" = some (.ref f)) (G : FnG P w K mg base CX0 10 f fd ["pot"] (spD K 1 F_law_right)) : Cal P w K mg base 10 "_law_right" 1 F_law_right := Cal.of F hm G rfl (fun _ _ _ _ _ _ us hl => match us, hl with | [_], _ => rfl)
/-! ### law -/
abbrev st_law : Stmt := top 30
abbrev N_law : List Str := ["script", "place", "pot", "lap"]
theorem sc_law : FnScope N_law ["script"] (defScope st_law) := ⟨rfl, rfl, rfl, by decide +kernel, rfl, by decide +kernel, by decide +kernel⟩
def s_law_0 : MS := mAsg 2 (mCallF 2 F_law_pot (mCons (mVar 0) (mCons (mVar 1) (mNil))))
def s_law_1 : MS := mIfS (mNotT (mB (mCall (pure1 vAll) (mCons (mComp (iR1 (mCons (mInt 1) (mNil))) (gN 3) (mYes) (mCallF 1 F_law_right (mCons (mVar 2) (mNil))) [3]) (mNil))))) (mRet (mBool false)) (mSkip)
def s_law_2 : MS := mFor (iL (mCallF 2 F_law_cells (mCons (mVar 0) (mCons (mInt 2) (mNil))))) (gN 1) (mSeq (s_law_0) (s_law_1))
def b_law : MS := mSeq (s_law_2) (mRet (mBool true))
def F_law : Fn := fnD 4 b_law
theorem ok_law {f : Addr} {fd : FuncData} (F : FunD K "law" "law" (defArgs st_law) (defBody st_law) (defScope st_law) [] [] f fd) (T : Tx K mg) (C_law_cells : Cal P w K mg base 1 "_law_cells" 2 F_law_cells) (C_law_pot : Cal P w K mg base 1 "_law_pot" 2 F_law_pot) (C_law_right : Cal P w K mg base 10 "_law_right" 1 F_law_right) : FnG P w K mg base CX0 11 f fd ["script"] (spD K 1 F_law) := by
  refine fn_mk F (k := 10) sc_law rfl rfl (b := b_law) fun cdv A outer s H E hG hr => ?_
  have nd := sc_law.nd
  exact ds_cons (d_for PassesOwn.never rfl (di_list (C_law_cells.call hG (hr.mono (by decide)) rfl (da_cons (d_var 0) (da_cons (d_int) (da_nil))))) (dg_name 1 nd (.inl rfl)) (ds_cons (d_set 2 nd (.inr rfl) (C_law_pot.call hG (hr.mono (by decide)) rfl (da_cons (d_var 0) (da_cons (d_var 1) (da_nil))))) (ds_one (d_ifS (d_notT (d_valT (d_callB (c_all rfl) rfl T.f_all b_all (da_cons (d_comp [("lap", 3)] rfl nd (di_range1 rfl T.f_range (da_cons (d_int) (da_nil))) (blkOk_by (by kernel_rfl)) (fun _ _ _ _ _ => dgc_name 3 nd (.inl rfl) rfl (by decide) (.inr rfl)) (fun _ _ _ _ _ => dts_nil) (fun _ _ _ _ _ => C_law_right.call hG (hr.mono (by decide)) rfl (da_cons (d_var 2) (da_nil)))) (da_nil))))) (ds_one (d_ret (d_bool))) (ds_nil))))) (ds_one (d_ret (d_bool)))
theorem cal_law {f : Addr} {fd : FuncData} (F : FunD K "law" "law" (defArgs st_law) (defBody st_law) (defScope st_law) [] [] f fd) (hm : mg "law" = some (.ref f)) (G : FnG P w K mg base CX0 11 f fd ["script"] (spD K 1 F_law)) : Cal P w K mg base 11 "law" 1 F_law := Cal.of F hm G rfl (fun _ _ _ _ _ _ us hl => match us, hl with | [_], _ => rfl)
end
/-! ### the head -/
def d_is_integer : He.DefD := ⟨("is_integer", none), "is_integer", "is_integer", defArgs st_is_integer, defBody st_is_integer, defScope st_is_integer, [], []⟩
def d_sum_by : He.DefD := ⟨("sum_by", none), "sum_by", "sum_by", defArgs st_sum_by, defBody st_sum_by, defScope st_sum_by, [], []⟩
def d_times : He.DefD := ⟨("times", none), "times", "times", defArgs st_times, defBody st_times, defScope st_times, [], []⟩
def d_law_pot : He.DefD := ⟨("_law_pot", none), "_law_pot", "_law_pot", defArgs st_law_pot, defBody st_law_pot, defScope st_law_pot, [], []⟩
def d_law_take : He.DefD := ⟨("_law_take", none), "_law_take", "_law_take", defArgs st_law_take, defBody st_law_take, defScope st_law_take, [], []⟩
def d_law_cells : He.DefD := ⟨("_law_cells", none), "_law_cells", "_law_cells", defArgs st_law_cells, defBody st_law_cells, defScope st_law_cells, [], []⟩
def d_law_sum : He.DefD := ⟨("_law_sum", none), "_law_sum", "_law_sum", defArgs st_law_sum, defBody st_law_sum, defScope st_law_sum, [], []⟩
def d_law_least : He.DefD := ⟨("_law_least", none), "_law_least", "_law_least", defArgs st_law_least, defBody st_law_least, defScope st_law_least, [], []⟩
def d_is_between : He.DefD := ⟨("is_between", none), "is_between", "is_between", defArgs st_is_between, defBody st_is_between, defScope st_is_between, [], []⟩
def d_is_closed : He.DefD := ⟨("is_closed", none), "is_closed", "is_closed", defArgs st_is_closed, defBody st_is_closed, defScope st_is_closed, [], []⟩
def d_law_table : He.DefD := ⟨("_law_table", none), "_law_table", "_law_table", defArgs st_law_table, defBody st_law_table, defScope st_law_table, [], []⟩
def d_is_heap : He.DefD := ⟨("is_heap", none), "is_heap", "is_heap", defArgs st_is_heap, defBody st_is_heap, defScope st_is_heap, [], []⟩
def d_check_heap : He.DefD := ⟨("check_heap", none), "check_heap", "check_heap", defArgs st_check_heap, defBody st_check_heap, defScope st_check_heap, [], []⟩
def d_sum_of : He.DefD := ⟨("sum_of", none), "sum_of", "sum_of", defArgs st_sum_of, defBody st_sum_of, defScope st_sum_of, [], []⟩
def d_check_two : He.DefD := ⟨("check_two", none), "check_two", "check_two", defArgs st_check_two, defBody st_check_two, defScope st_check_two, [], []⟩
def d_product : He.DefD := ⟨("product", none), "product", "product", defArgs st_product, defBody st_product, defScope st_product, [], []⟩
def d_square : He.DefD := ⟨("square", none), "square", "square", defArgs st_square, defBody st_square, defScope st_square, [], []⟩
def d_law_is_small_right : He.DefD := ⟨("_law_is_small_right", none), "_law_is_small_right", "_law_is_small_right", defArgs st_law_is_small_right, defBody st_law_is_small_right, defScope st_law_is_small_right, [], []⟩
def d_law_are_three_right : He.DefD := ⟨("_law_are_three_right", none), "_law_are_three_right", "_law_are_three_right", defArgs st_law_are_three_right, defBody st_law_are_three_right, defScope st_law_are_three_right, [], []⟩
def d_law_right : He.DefD := ⟨("_law_right", none), "_law_right", "_law_right", defArgs st_law_right, defBody st_law_right, defScope st_law_right, [], []⟩
def d_law : He.DefD := ⟨("law", none), "law", "law", defArgs st_law, defBody st_law, defScope st_law, [], []⟩
def fns : List He.DefD := [d_is_integer, d_sum_by, d_times, d_law_pot, d_law_take, d_law_cells, d_law_sum, d_law_least, d_is_between, d_is_closed, d_law_table, d_is_heap, d_check_heap, d_sum_of, d_check_two, d_product, d_square, d_law_is_small_right, d_law_are_three_right, d_law_right, d_law]
def fas : List He.Fa := [.glo "is_integer", .glo "sum_by", .glo "times", .glo "_law_pot", .glo "_law_take", .glo "_law_cells", .glo "_law_sum", .glo "_law_least", .glo "is_between", .glo "is_closed", .glo "_law_table", .glo "is_heap", .glo "check_heap", .glo "sum_of", .glo "check_two", .glo "product", .glo "square", .glo "_law_is_small_right", .glo "_law_are_three_right", .glo "_law_right", .glo "law", .free "abs", .free "all", .free "any", .free "bool", .free "int", .free "isinstance", .free "len", .free "list", .free "max", .free "min", .free "range", .free "repr", .free "sum", .free "tuple", .int "MOST_HEAP" 255, .int "MOST_HEAPS" 40, .glo "FIELDS"]
def more (K : PySem.W.Frag) : Bool := He.tupB K "FIELDS" [.int 1, .int 2, .int 4, .int 16, .int 256]
abbrev R : PySem.W.OpenRow := PySem.W.OpenLaw.row PySem.Challenge.rw_whoeverbegins_k37_whole_products_of_heap
def names : List PySem.Str := ["__name__", "PlayError", "BadHeap", "BadHeaps", "is_integer", "is_between", "MOST_HEAP", "MOST_HEAPS", "FIELDS", "is_heap", "check_heap", "check_two", "sum_by", "sum_of", "times", "product", "square", "is_closed", "_law_pot", "_law_take", "_law_cells", "_law_sum", "_law_least", "_law_table", "_law_is_small_right", "_law_are_three_right", "_law_right"]
def lawPlace : Nat := 30
theorem facts {P : Program} {w : World} {K : PySem.W.Frag} {h : Heap} {mg : Str → Option Value} {f : Addr} (X : K.In h) (G : h.Ns mainGlobals mg) (hfa : mg ("law" : Str) = some (.ref f)) (c : He.SaysD fas fns K) (cm : more K = true) :
    ∃ fd : FuncData, (∀ (s : Shared) (v : Value), BindsTo s fd ⟨[v], []⟩ [("script", v)]) ∧ ∀ base : Heap, FnG P w K mg base CX0 11 f fd ["script"] (spD K 1 F_law) := by
  obtain ⟨fd_is_integer, D_is_integer⟩ := c.def_ 0 (d := d_is_integer) rfl
  have g_is_integer := He.glo_ok X G (c.fact 0 (f := .glo "is_integer") rfl)
  obtain ⟨fd_sum_by, D_sum_by⟩ := c.def_ 1 (d := d_sum_by) rfl
  have g_sum_by := He.glo_ok X G (c.fact 1 (f := .glo "sum_by") rfl)
  obtain ⟨fd_times, D_times⟩ := c.def_ 2 (d := d_times) rfl
  have g_times := He.glo_ok X G (c.fact 2 (f := .glo "times") rfl)
  obtain ⟨fd_law_pot, D_law_pot⟩ := c.def_ 3 (d := d_law_pot) rfl
  have g_law_pot := He.glo_ok X G (c.fact 3 (f := .glo "_law_pot") rfl)
  obtain ⟨fd_law_take, D_law_take⟩ := c.def_ 4 (d := d_law_take) rfl
  have g_law_take := He.glo_ok X G (c.fact 4 (f := .glo "_law_take") rfl)
  obtain ⟨fd_law_cells, D_law_cells⟩ := c.def_ 5 (d := d_law_cells) rfl
  have g_law_cells := He.glo_ok X G (c.fact 5 (f := .glo "_law_cells") rfl)
  obtain ⟨fd_law_sum, D_law_sum⟩ := c.def_ 6 (d := d_law_sum) rfl
  have g_law_sum := He.glo_ok X G (c.fact 6 (f := .glo "_law_sum") rfl)
  obtain ⟨fd_law_least, D_law_least⟩ := c.def_ 7 (d := d_law_least) rfl
  have g_law_least := He.glo_ok X G (c.fact 7 (f := .glo "_law_least") rfl)
  obtain ⟨fd_is_between, D_is_between⟩ := c.def_ 8 (d := d_is_between) rfl
  have g_is_between := He.glo_ok X G (c.fact 8 (f := .glo "is_between") rfl)
  obtain ⟨fd_is_closed, D_is_closed⟩ := c.def_ 9 (d := d_is_closed) rfl
  have g_is_closed := He.glo_ok X G (c.fact 9 (f := .glo "is_closed") rfl)
  obtain ⟨fd_law_table, D_law_table⟩ := c.def_ 10 (d := d_law_table) rfl
  have g_law_table := He.glo_ok X G (c.fact 10 (f := .glo "_law_table") rfl)
  obtain ⟨fd_is_heap, D_is_heap⟩ := c.def_ 11 (d := d_is_heap) rfl
  have g_is_heap := He.glo_ok X G (c.fact 11 (f := .glo "is_heap") rfl)
  obtain ⟨fd_check_heap, D_check_heap⟩ := c.def_ 12 (d := d_check_heap) rfl
  have g_check_heap := He.glo_ok X G (c.fact 12 (f := .glo "check_heap") rfl)
  obtain ⟨fd_sum_of, D_sum_of⟩ := c.def_ 13 (d := d_sum_of) rfl
  have g_sum_of := He.glo_ok X G (c.fact 13 (f := .glo "sum_of") rfl)
  obtain ⟨fd_check_two, D_check_two⟩ := c.def_ 14 (d := d_check_two) rfl
  have g_check_two := He.glo_ok X G (c.fact 14 (f := .glo "check_two") rfl)
  obtain ⟨fd_product, D_product⟩ := c.def_ 15 (d := d_product) rfl
  have g_product := He.glo_ok X G (c.fact 15 (f := .glo "product") rfl)
  obtain ⟨fd_square, D_square⟩ := c.def_ 16 (d := d_square) rfl
  have g_square := He.glo_ok X G (c.fact 16 (f := .glo "square") rfl)
  obtain ⟨fd_law_is_small_right, D_law_is_small_right⟩ := c.def_ 17 (d := d_law_is_small_right) rfl
  have g_law_is_small_right := He.glo_ok X G (c.fact 17 (f := .glo "_law_is_small_right") rfl)
  obtain ⟨fd_law_are_three_right, D_law_are_three_right⟩ := c.def_ 18 (d := d_law_are_three_right) rfl
  have g_law_are_three_right := He.glo_ok X G (c.fact 18 (f := .glo "_law_are_three_right") rfl)
  obtain ⟨fd_law_right, D_law_right⟩ := c.def_ 19 (d := d_law_right) rfl
  have g_law_right := He.glo_ok X G (c.fact 19 (f := .glo "_law_right") rfl)
  obtain ⟨fd_law, D_law⟩ := c.def_ 20 (d := d_law) rfl
  have g_law := He.glo_ok X G (c.fact 20 (f := .glo "law") rfl)
  have T : Tx K mg := ⟨He.free_ok X G (c.fact 21 (f := .free "abs") rfl), He.free_ok X G (c.fact 22 (f := .free "all") rfl), He.free_ok X G (c.fact 23 (f := .free "any") rfl), He.free_ok X G (c.fact 24 (f := .free "bool") rfl), He.free_ok X G (c.fact 25 (f := .free "int") rfl), He.free_ok X G (c.fact 26 (f := .free "isinstance") rfl), He.free_ok X G (c.fact 27 (f := .free "len") rfl), He.free_ok X G (c.fact 28 (f := .free "list") rfl), He.free_ok X G (c.fact 29 (f := .free "max") rfl), He.free_ok X G (c.fact 30 (f := .free "min") rfl), He.free_ok X G (c.fact 31 (f := .free "range") rfl), He.free_ok X G (c.fact 32 (f := .free "repr") rfl), He.free_ok X G (c.fact 33 (f := .free "sum") rfl), He.free_ok X G (c.fact 34 (f := .free "tuple") rfl), Glb.int (He.int_ok X G (c.fact 35 (f := .int "MOST_HEAP" 255) rfl)), Glb.int (He.int_ok X G (c.fact 36 (f := .int "MOST_HEAPS" 40) rfl)), Glb.tup (He.glo_ok X G (c.fact 37 (f := .glo "FIELDS") rfl)) (fun H => He.tupB_ok (cm) H) (by repeat constructor)⟩
  have e : f = He.ga K "law" := by
    have := hfa.symm.trans g_law
    simpa using this
  subst e
  refine ⟨fd_law, fun s v => FunD.bindsA (ps := ["script"]) D_law (fun _ _ _ _ _ _ us hl => match us, hl with | [_], _ => rfl) s [v] rfl, fun base => ?_⟩
  have G_is_integer := ok_is_integer (P := P) (w := w) (mg := mg) (base := base) D_is_integer T
  have C_is_integer := cal_is_integer D_is_integer g_is_integer G_is_integer
  have G_sum_by := ok_sum_by (P := P) (w := w) (mg := mg) (base := base) D_sum_by
  have C_sum_by := cal_sum_by D_sum_by g_sum_by G_sum_by
  have G_times := ok_times (P := P) (w := w) (mg := mg) (base := base) D_times g_times T 6
  have C_times := cal_times D_times g_times G_times
  have G_law_pot := ok_law_pot (P := P) (w := w) (mg := mg) (base := base) D_law_pot T
  have C_law_pot := cal_law_pot D_law_pot g_law_pot G_law_pot
  have G_law_take := ok_law_take (P := P) (w := w) (mg := mg) (base := base) D_law_take T
  have C_law_take := cal_law_take D_law_take g_law_take G_law_take
  have G_law_cells := ok_law_cells (P := P) (w := w) (mg := mg) (base := base) D_law_cells T
  have C_law_cells := cal_law_cells D_law_cells g_law_cells G_law_cells
  have G_law_sum := ok_law_sum (P := P) (w := w) (mg := mg) (base := base) D_law_sum T
  have C_law_sum := cal_law_sum D_law_sum g_law_sum G_law_sum
  have G_law_least := ok_law_least (P := P) (w := w) (mg := mg) (base := base) D_law_least T
  have C_law_least := cal_law_least D_law_least g_law_least G_law_least
  have G_is_between := ok_is_between (P := P) (w := w) (mg := mg) (base := base) D_is_between C_is_integer
  have C_is_between := cal_is_between D_is_between g_is_between G_is_between
  have G_is_closed := ok_is_closed (P := P) (w := w) (mg := mg) (base := base) D_is_closed T C_is_integer
  have C_is_closed := cal_is_closed D_is_closed g_is_closed G_is_closed
  have KC3 := kw_3 D_is_closed g_is_closed G_is_closed
  have G_law_table := ok_law_table (P := P) (w := w) (mg := mg) (base := base) D_law_table T C_law_sum C_law_least
  have C_law_table := cal_law_table D_law_table g_law_table G_law_table
  have G_is_heap := ok_is_heap (P := P) (w := w) (mg := mg) (base := base) D_is_heap T C_is_between
  have C_is_heap := cal_is_heap D_is_heap g_is_heap G_is_heap
  have G_check_heap := ok_check_heap (P := P) (w := w) (mg := mg) (base := base) D_check_heap C_is_heap
  have C_check_heap := cal_check_heap D_check_heap g_check_heap G_check_heap
  have G_sum_of := ok_sum_of (P := P) (w := w) (mg := mg) (base := base) D_sum_of T C_is_heap C_sum_by
  have C_sum_of := cal_sum_of D_sum_of g_sum_of G_sum_of
  have KC1 := kw_1 D_sum_of g_sum_of G_sum_of
  have G_check_two := ok_check_two (P := P) (w := w) (mg := mg) (base := base) D_check_two C_check_heap
  have C_check_two := cal_check_two D_check_two g_check_two G_check_two
  have G_product := ok_product (P := P) (w := w) (mg := mg) (base := base) D_product C_check_two C_times
  have C_product := cal_product D_product g_product G_product
  have KC0 := kw_0 D_product g_product G_product
  have G_square := ok_square (P := P) (w := w) (mg := mg) (base := base) D_square C_check_heap C_times
  have C_square := cal_square D_square g_square G_square
  have KC2 := kw_2 D_square g_square G_square
  have G_law_is_small_right := ok_law_is_small_right (P := P) (w := w) (mg := mg) (base := base) D_law_is_small_right T C_law_table KC0
  have C_law_is_small_right := cal_law_is_small_right D_law_is_small_right g_law_is_small_right G_law_is_small_right
  have G_law_are_three_right := ok_law_are_three_right (P := P) (w := w) (mg := mg) (base := base) D_law_are_three_right T C_law_sum C_product C_square KC1 KC2
  have C_law_are_three_right := cal_law_are_three_right D_law_are_three_right g_law_are_three_right G_law_are_three_right
  have G_law_right := ok_law_right (P := P) (w := w) (mg := mg) (base := base) D_law_right T C_law_is_small_right C_law_take C_law_are_three_right C_product C_square C_sum_of C_law_sum C_is_closed KC1 KC3
  have C_law_right := cal_law_right D_law_right g_law_right G_law_right
  exact ok_law (P := P) (w := w) (mg := mg) (base := base) D_law T C_law_cells C_law_pot C_law_right
theorem pot_ok : FnPot F_law_pot := potB_ok (k2 := 467) (k3 := 331) (k4 := 70061) (k5 := 9109) (k6 := 787) (by decide) (by decide) (by decide)
theorem take_ok : FnTake F_law_take := takeA_ok (k1 := 90089) (k2 := 157) (k3 := 10169) (k4 := 257) (k5 := 233) (by decide) (by decide) (by decide) (by decide) (by decide)
theorem cells_ok : FnCells F_law_cells := DL.cells_ok
theorem law_of {B : Int} (hr : FnRight B F_law_right) (hB : 0 ≤ B) (hb : 1 * B ≤ 1000000) (ns : List Int) : ∃ S', F_law [.sc ns] [] = some (.d (.bool true), S') := law_std (fc := F_law_cells) (fp := F_law_pot) (fr := F_law_right) 2 1 (by decide) (by decide) cells_ok pot_ok hr hB hb ns
abbrev hk : PySem.W.Hook := He.hookX fns.length fas fns [] [] more
def ob (s : PySem.W.SharedT) : He.AlX := He.obsX fns.length fas fns [] [] more (HandSHeadRun.getT s)
theorem ob_eq (s : PySem.W.SharedT) : ob s = hk.obs s.abs := He.obsX_eq (HandSHeadRun.getT_eq s)
set_option maxHeartbeats 0
theorem run (w : World) : HandSHeadRun.RunEq R (PySem.W.view R.prog [lawPlace]) hk ob 4000 (names.take 40) w := by
  intro os
  kernel_rfl
end K37
open PySem PySem.W PySem.Calls PyProof.Rows
theorem K37.holds (hm : ∀ ns : List Int, ns.length ≤ 63 → ∃ S', K37.F_law [.sc ns] [] = some (.d (.bool true), S')) : PySem.Challenge.rw_whoeverbegins_k37_whole_products_of_heap.Holds := by
  w_on; o_law
  refine HandSHeadRun.head_any (r := K37.R) (q := view K37.R.prog [K37.lawPlace]) (H := K37.hk) (ob := K37.ob) (M := 4000) (loose := K37.names.take 40) (d := HandSHeadRun.topDef K37.R.prog K37.lawPlace) (kwd := []) K37.ob_eq
    (by kernel_rfl) (fun s => by kernel_rfl) K37.run (by kernel_rfl) (by kernel_rfl) (by kernel_rfl) (by rfl) (by first | assumption | decide +kernel) (by decide +kernel) ⟨rfl, rfl, rfl, rfl, rfl, by decide +kernel⟩ ?hw ?hc
  case hw => w_witness2
  case hc =>
    refine DL.walk_G (l := PySem.Challenge.rw_whoeverbegins_k37_whole_products_of_heap) (n := 63) (k := 11) (x := "script") rfl (by decide) (by kernel_rfl) ⟨rfl, by decide, by decide⟩ ?F
    intro w mg fa h Y G hmg0
    obtain ⟨K, KX, c⟩ := Y
    have hmg : mg ("law" : PySem.Str) = some (.ref fa) := by
      have e : (HandSHeadRun.topDef K37.R.prog K37.lawPlace).name = ("law" : PySem.Str) := by kernel_rfl
      rw [← e]
      exact hmg0
    obtain ⟨fd, hb, hF⟩ := K37.facts (P := (PySem.Challenge.rw_whoeverbegins_k37_whole_products_of_heap).prog) (w := w) KX G hmg c.t.d c.more
    exact ⟨K, fd, K37.F_law, KX, hb, hm, fun base _ _ => hF base⟩

set_option Elab.async false
set_option linter.all false
set_option maxRecDepth 100000
set_option autoImplicit false
noncomputable section
/-! law k37, the plain part: the field of 256 heaps. -/
namespace K37
/-- products under sixteen, as a table in one number -/
def T16 : Nat := 105869934573458929506328375061315679171845852290158294152364606998566138674788542437607012108590681290039201854413661647678221215878256740644142704492826533379271178812567475734100749217218550151073389438700294400309340617321998747341553871339115878427482513263866732641709495414604747141407345988080972595200
def m16 (a b : Nat) : Nat := T16 >>> (4 * (16 * (a % 16) + b % 16)) % 16
theorem m16_lt (a b : Nat) : m16 a b < 16 := Nat.mod_lt _ (by decide)
theorem m16_mod (a b : Nat) : m16 (a % 16) (b % 16) = m16 a b := by simp [m16]
theorem m16_l (a b : Nat) : m16 (a % 16) b = m16 a b := by simp [m16]
theorem m16_r (a b : Nat) : m16 a (b % 16) = m16 a b := by simp [m16]
theorem mod_xor (a b : Nat) : (a ^^^ b) % 16 = a % 16 ^^^ b % 16 := by
  have := Nat.xor_mod_two_pow (a := a) (b := b) (n := 4)
  simpa using this
theorem m16_comm0 : ∀ a, a < 16 → ∀ b, b < 16 → m16 a b = m16 b a := by decide +kernel
theorem m16_add0 : ∀ a, a < 16 → ∀ b, b < 16 → ∀ c, c < 16 → m16 a (b ^^^ c) = m16 a b ^^^ m16 a c := by decide +kernel
theorem m16_assoc0 : ∀ a, a < 16 → ∀ b, b < 16 → ∀ c, c < 16 → m16 (m16 a b) c = m16 a (m16 b c) := by decide +kernel
theorem m16_comm (a b : Nat) : m16 a b = m16 b a := by
  rw [← m16_mod a b, ← m16_mod b a]
  exact m16_comm0 _ (Nat.mod_lt _ (by decide)) _ (Nat.mod_lt _ (by decide))
theorem m16_add (a b c : Nat) : m16 a (b ^^^ c) = m16 a b ^^^ m16 a c := by
  rw [← m16_mod a (b ^^^ c), ← m16_mod a b, ← m16_mod a c, mod_xor]
  exact m16_add0 _ (Nat.mod_lt _ (by decide)) _ (Nat.mod_lt _ (by decide)) _ (Nat.mod_lt _ (by decide))
theorem m16_add' (a b c : Nat) : m16 (b ^^^ c) a = m16 b a ^^^ m16 c a := by rw [m16_comm, m16_add, m16_comm a b, m16_comm a c]
theorem m16_assoc (a b c : Nat) : m16 (m16 a b) c = m16 a (m16 b c) := by
  have := m16_assoc0 (a % 16) (Nat.mod_lt _ (by decide)) (b % 16) (Nat.mod_lt _ (by decide)) (c % 16) (Nat.mod_lt _ (by decide))
  simp only [m16_mod, m16_l, m16_r] at this
  exact this
theorem m16_left (a b c : Nat) : m16 a (m16 b c) = m16 b (m16 a c) := by rw [← m16_assoc, m16_comm a b, m16_assoc]
/-- products under 256 -/
def hi (x y : Nat) : Nat := m16 (x / 16) (y / 16) ^^^ m16 (x / 16) y ^^^ m16 x (y / 16)
def lo (x y : Nat) : Nat := m16 x y ^^^ m16 (m16 (x / 16) (y / 16)) 8
def M (x y : Nat) : Nat := 16 * hi x y + lo x y
theorem xor16 {a b : Nat} (h : a < 16) (h2 : b < 16) : a ^^^ b < 16 := Nat.xor_lt_two_pow (n := 4) h h2
theorem hi_lt (x y : Nat) : hi x y < 16 := xor16 (xor16 (m16_lt _ _) (m16_lt _ _)) (m16_lt _ _)
theorem lo_lt (x y : Nat) : lo x y < 16 := xor16 (m16_lt _ _) (m16_lt _ _)
theorem M_lt (x y : Nat) : M x y < 256 := by
  have := hi_lt x y
  have := lo_lt x y
  unfold M
  omega
theorem M_div (x y : Nat) : M x y / 16 = hi x y := by
  have := lo_lt x y
  unfold M
  omega
theorem M_mod (x y : Nat) : M x y % 16 = lo x y := by
  have := lo_lt x y
  unfold M
  omega
theorem m16_M (x y z : Nat) : m16 (M x y) z = m16 (lo x y) z := by rw [← m16_l (M x y), M_mod]
theorem m16_M' (x y z : Nat) : m16 z (M x y) = m16 z (lo x y) := by rw [← m16_r z (M x y), M_mod]
theorem div_xor (a b : Nat) : (a ^^^ b) / 16 = a / 16 ^^^ b / 16 := by
  have := Nat.shiftRight_xor_distrib (a := a) (b := b) (i := 4)
  simpa [Nat.shiftRight_eq_div_pow] using this
theorem P_xor {a b c d : Nat} (hb : b < 16) (hd : d < 16) : (16 * a + b) ^^^ (16 * c + d) = 16 * (a ^^^ c) + (b ^^^ d) := by
  have e1 := Nat.div_add_mod ((16 * a + b) ^^^ (16 * c + d)) 16
  rw [div_xor, mod_xor] at e1
  rw [← e1, show (16 * a + b) / 16 = a by omega, show (16 * c + d) / 16 = c by omega, show (16 * a + b) % 16 = b by omega, show (16 * c + d) % 16 = d by omega]
theorem xor_left (a b c : Nat) : a ^^^ (b ^^^ c) = b ^^^ (a ^^^ c) := by rw [← Nat.xor_assoc, Nat.xor_comm a b, Nat.xor_assoc]
theorem M_comm (x y : Nat) : M x y = M y x := by
  unfold M hi lo
  rw [m16_comm x y, m16_comm (x / 16) (y / 16), m16_comm (x / 16) y, m16_comm x (y / 16), Nat.xor_assoc, Nat.xor_assoc, Nat.xor_comm (m16 y (x / 16))]
theorem M_add (x y z : Nat) : M x (y ^^^ z) = M x y ^^^ M x z := by
  unfold M
  rw [P_xor (lo_lt x y) (lo_lt x z)]
  congr 2
  · unfold hi
    rw [div_xor, m16_add, m16_add, m16_add]
    ac_rfl
  · unfold lo
    rw [div_xor, m16_add, m16_add, m16_add']
    ac_rfl
theorem M_add' (x y z : Nat) : M (y ^^^ z) x = M y x ^^^ M z x := by rw [M_comm, M_add, M_comm x y, M_comm x z]
theorem M_assoc (x y z : Nat) : M (M x y) z = M x (M y z) := by
  have e1 : hi (M x y) z = hi x (M y z) := by
    unfold hi
    rw [M_div, M_div, m16_M, m16_M']
    unfold hi lo
    simp only [m16_add, m16_add', m16_assoc, m16_left, m16_comm, Nat.xor_assoc, Nat.xor_comm, xor_left]
  have e2 : lo (M x y) z = lo x (M y z) := by
    unfold lo
    rw [M_div, M_div, m16_M, m16_M']
    unfold hi lo
    simp only [m16_add, m16_add', m16_assoc, m16_left, m16_comm, Nat.xor_assoc, Nat.xor_comm, xor_left]
  show 16 * hi (M x y) z + lo (M x y) z = 16 * hi x (M y z) + lo x (M y z)
  rw [e1, e2]
theorem m16_zero (b : Nat) : m16 0 b = 0 := by
  rw [← m16_r]
  exact (by decide +kernel : ∀ b, b < 16 → m16 0 b = 0) _ (Nat.mod_lt _ (by decide))
theorem m16_one (b : Nat) : m16 1 b = b % 16 := by
  rw [← m16_r]
  exact (by decide +kernel : ∀ b, b < 16 → m16 1 b = b) _ (Nat.mod_lt _ (by decide))
theorem M_zero (y : Nat) : M 0 y = 0 := by
  simp [M, hi, lo, m16_zero]
theorem M_one (y : Nat) (h : y < 256) : M 1 y = y := by
  simp [M, hi, lo, m16_zero, m16_one]
  omega
def invT : Nat := 6149839975053679294961922118828781602691891000657268326765943922294887731281690520146580180387024566202970828681998058787495181452196372501353009755329486440013300182841055131325232833583091497164866927756863008868990133850177575436752981269440448667387417883660719415497037428322629691607048131859229520566399452039081301384146653459922776489813243959808630721551566495604700615827115267487975916377363961453400666983601780149607093189079198573627488605815685827180130393515186210340658488807120314952051835550655431937787328980034017346743743135042013635681755417283342969277988207907316147705408989542776461000960
def inv (x : Nat) : Nat := invT >>> (8 * x) % 256
theorem M_inv : ∀ x, x < 256 → x ≠ 0 → M x (inv x) = 1 := by decide +kernel
theorem M_nz (x y : Nat) (hx : x < 256) (hy : y < 256) : M x y = 0 ↔ x = 0 ∨ y = 0 := by
  constructor
  · intro h
    by_cases e : x = 0
    · exact .inl e
    · have h1 := M_inv x hx e
      have h2 : M (M (inv x) x) y = M (inv x) (M x y) := M_assoc _ _ _
      rw [h, M_comm (inv x) x, h1, M_one y hy, M_comm, M_zero] at h2
      exact .inr h2
  · rintro (rfl | rfl)
    · exact M_zero y
    · rw [M_comm, M_zero]
/-! ### the walk down the fields -/
def tmF : Nat → Nat → Nat → Nat
  | 0, _, _ => 0
  | f + 1, x, y => if x < 2 ∨ y < 2 then x * y else
    let p := if 16 ≤ max x y then 16 else if 4 ≤ max x y then 4 else 2
    let lows := tmF f (x % p) (y % p)
    let highs := tmF f (x / p) (y / p)
    let both := tmF f (x / p ^^^ x % p) (y / p ^^^ y % p) ^^^ lows
    both * p ^^^ lows ^^^ tmF f highs (p / 2)
theorem tmF_low : ∀ f, f < 7 → 3 ≤ f → ∀ x, x < 16 → ∀ y, y < 16 → tmF f x y = m16 x y := by decide +kernel
theorem tmF_eq (f x y : Nat) (hf : f < 6) (h3 : 3 ≤ f) (hx : x < 256) (hy : y < 256) : tmF (f + 1) x y = M x y := by
  by_cases h : x < 16 ∧ y < 16
  · rw [tmF_low (f + 1) (by omega) (by omega) x h.1 y h.2]
    have e1 : x / 16 = 0 := by omega
    have e2 : y / 16 = 0 := by omega
    have e3 : m16 x 0 = 0 := by rw [m16_comm, m16_zero]
    simp [M, hi, lo, e1, e2, m16_zero, e3]
  · unfold tmF
    by_cases g : x < 2 ∨ y < 2
    · rw [if_pos g]
      rcases g with g | g
      · obtain rfl | rfl : x = 0 ∨ x = 1 := by omega
        · rw [M_zero]; omega
        · rw [M_one y hy]; omega
      · obtain rfl | rfl : y = 0 ∨ y = 1 := by omega
        · rw [M_comm, M_zero]; omega
        · rw [M_comm, M_one x hx]; omega
    · rw [if_neg g]
      have hp : 16 ≤ max x y := by omega
      simp only [hp, if_true]
      have l1 : x % 16 < 16 := Nat.mod_lt _ (by decide)
      have l2 : y % 16 < 16 := Nat.mod_lt _ (by decide)
      have l3 : x / 16 < 16 := by omega
      have l4 : y / 16 < 16 := by omega
      rw [tmF_low f (by omega) h3 _ l1 _ l2, tmF_low f (by omega) h3 _ l3 _ l4, tmF_low f (by omega) h3 _ (xor16 l3 l1) _ (xor16 l4 l2), tmF_low f (by omega) h3 _ (m16_lt _ _) _ (by decide)]
      rw [m16_mod]
      simp only [m16_add, m16_add', m16_l, m16_r]
      have e : (m16 (x / 16) (y / 16) ^^^ m16 x (y / 16) ^^^ (m16 (x / 16) y ^^^ m16 x y) ^^^ m16 x y) = hi x y := by
        unfold hi
        have := Nat.xor_self (m16 x y)
        calc _ = m16 (x / 16) (y / 16) ^^^ m16 (x / 16) y ^^^ m16 x (y / 16) ^^^ (m16 x y ^^^ m16 x y) := by ac_rfl
          _ = _ := by rw [this, Nat.xor_zero]
      rw [e]
      have e2 : hi x y * 16 ^^^ m16 x y ^^^ m16 (m16 (x / 16) (y / 16)) (16 / 2) = (16 * hi x y + 0) ^^^ (16 * 0 + lo x y) := by
        rw [Nat.xor_assoc, Nat.mul_comm]
        simp [lo]
      rw [e2, P_xor (by decide) (lo_lt x y)]
      simp [M]
end K37

set_option Elab.async false
set_option linter.all false
set_option maxRecDepth 100000
set_option autoImplicit false
noncomputable section
/-! law k37: what its defs compute. -/
namespace K37
open PySem PySem.Spec PyProof.Rows L2 DL
@[simp] theorem is_integer_ok (S : Sto) (i : Int) : F_is_integer [.d (.int i)] S = some (.d (.bool true), S) := by
  simp [F_is_integer, fnD, b_is_integer]
@[simp] theorem is_between_ok (S : Sto) (i a b : Int) : F_is_between [.d (.int i), .d (.int a), .d (.int b)] S = some (.d (.bool (decide (a ≤ i ∧ i ≤ b))), S) := by
  by_cases h : a ≤ i
  · simp [F_is_between, fnD, b_is_between, vLe, h]
  · simp [F_is_between, fnD, b_is_between, vLe, h]
theorem xor_nat (a b : Nat) : Builtin.bitXor (a : Int) (b : Int) = ((a ^^^ b : Nat) : Int) := by
  have := Bits.bitXor_pp (x := (a : Int)) (y := (b : Int)) (by omega) (by omega)
  simpa using this
def bnd : Nat → Nat
  | 0 => 0
  | 1 => 2
  | 2 => 4
  | 3 => 16
  | _ => 256
theorem tm_lt (f : Nat) (hf : f < 7) (x y : Nat) (hx : x < bnd f) (hy : y < bnd f) : tmF f x y < bnd f := by
  match f, hf with
  | 0, _ => simp [bnd] at hx
  | 1, _ => exact (by decide +kernel : ∀ x, x < 2 → ∀ y, y < 2 → tmF 1 x y < 2) x hx y hy
  | 2, _ => exact (by decide +kernel : ∀ x, x < 4 → ∀ y, y < 4 → tmF 2 x y < 4) x hx y hy
  | 3, _ => exact (by decide +kernel : ∀ x, x < 16 → ∀ y, y < 16 → tmF 3 x y < 16) x hx y hy
  | f + 4, h =>
    show tmF (f + 4) x y < 256
    rw [tmF_eq (f + 3) x y (by omega) (by omega) hx hy]
    exact M_lt x y
theorem bnd_xor (f a b : Nat) (ha : a < bnd f) (hb : b < bnd f) : a ^^^ b < bnd f := by
  match f with
  | 0 => simp [bnd] at ha
  | 1 => exact Nat.xor_lt_two_pow (n := 1) ha hb
  | 2 => exact Nat.xor_lt_two_pow (n := 2) ha hb
  | 3 => exact Nat.xor_lt_two_pow (n := 4) ha hb
  | f + 4 => exact Nat.xor_lt_two_pow (n := 8) ha hb
def pOf (x y : Nat) : Nat := if 16 ≤ max x y then 16 else if 4 ≤ max x y then 4 else 2
theorem part_ok (self : Fn) (S : Sto) (x y : Nat) (hx : 2 ≤ x) (hy : 2 ≤ y) (x2 x3 x4 x5 x6 x7 x8 x9 x10 : Option W) :
    s_times_1 self [some (.d (.int x)), some (.d (.int y)), x2, x3, x4, x5, x6, x7, x8, x9, x10] S = some (.nx [some (.d (.int x)), some (.d (.int y)), some (.d (.int (pOf x y))), x3, x4, x5, x6, x7, x8, x9, x10] S) := by
  have hm : maxI (x : Int) (y : Int) = ((max x y : Nat) : Int) := by
    unfold maxI
    split <;> omega
  have h2 : (2 : Int) ≤ ((max x y : Nat) : Int) := by omega
  unfold pOf
  by_cases h16 : 16 ≤ max x y
  · have h4 : (4 : Int) ≤ ((max x y : Nat) : Int) := by omega
    have h16' : (16 : Int) ≤ ((max x y : Nat) : Int) := by omega
    rw [if_pos h16]
    generalize max x y = m at *
    simp [s_times_1, vLe, hm, h2, h4, h16', fits, atI, ixN]
  · have h16' : ¬ (16 : Int) ≤ ((max x y : Nat) : Int) := by omega
    rw [if_neg h16]
    by_cases h4 : 4 ≤ max x y
    · have h4' : (4 : Int) ≤ ((max x y : Nat) : Int) := by omega
      rw [if_pos h4]
      generalize max x y = m at *
      simp [s_times_1, vLe, hm, h2, h4', h16', fits, atI, ixN]
    · have h4' : ¬ (4 : Int) ≤ ((max x y : Nat) : Int) := by omega
      rw [if_neg h4]
      generalize max x y = m at *
      simp [s_times_1, vLe, hm, h2, h4', h16', fits, atI, ixN]
theorem times_ok : ∀ (f x y : Nat) (S : Sto), f < 7 → x < bnd f → y < bnd f → F_times f [.d (.int x), .d (.int y)] S = some (.d (.int (tmF f x y)), S)
  | 0, x, y, S, _, hx, _ => by simp [bnd] at hx
  | f + 1, x, y, S, hf, hx, hy => by
    show fnD 11 (b_times (F_times f)) _ _ = _
    by_cases h : x < 2 ∨ y < 2
    · have hm : mulOk (x : Int) (y : Int) = true := by
        rcases h with h | h
        · exact mulOk_l (by omega) (by omega)
        · exact mulOk_r (by omega) (by omega)
      have e : tmF (f + 1) x y = x * y := by unfold tmF; rw [if_pos h]
      rw [e]
      have e2 : ((x * y : Nat) : Int) = (x : Int) * (y : Int) := by simp
      rw [e2]
      by_cases h1 : (x : Int) < 2
      · simp [fnD, b_times, s_times_0, vLt, h1, hm]
      · have h2 : (y : Int) < 2 := by omega
        simp [fnD, b_times, s_times_0, vLt, h1, h2, hm]
    · have hx2 : 2 ≤ x := by omega
      have hy2 : 2 ≤ y := by omega
      obtain ⟨p, hp⟩ : ∃ p, p = pOf x y := ⟨_, rfl⟩
      have hpart := part_ok (F_times f) S x y hx2 hy2 none none none none none none none none none
      rw [← hp] at hpart
      have hp3 : p = 2 ∨ p = 4 ∨ p = 16 := by
        rw [hp]; unfold pOf; split
        · omega
        · split <;> omega
      have b1 : x % p < bnd f ∧ y % p < bnd f ∧ x / p < bnd f ∧ y / p < bnd f ∧ p / 2 < bnd f := by
        have hxm : x ≤ max x y := by omega
        have hym : y ≤ max x y := by omega
        match f, hf with
        | 0, _ => simp [bnd] at hx; omega
        | 1, _ =>
          simp only [bnd] at hx hy ⊢
          have : p = 2 := by rw [hp]; unfold pOf; rw [if_neg (by omega), if_neg (by omega)]
          subst this
          omega
        | 2, _ =>
          simp only [bnd] at hx hy ⊢
          rcases hp3 with rfl | rfl | rfl
          · have : ¬ 4 ≤ max x y := fun z => by
              unfold pOf at hp
              split at hp <;> first | omega | (split at hp <;> omega)
            omega
          · omega
          · exfalso
            unfold pOf at hp
            split at hp <;> first | omega | (split at hp <;> omega)
        | 3, _ =>
          simp only [bnd] at hx hy ⊢
          rcases hp3 with rfl | rfl | rfl
          · have : ¬ 4 ≤ max x y := fun z => by
              unfold pOf at hp
              split at hp <;> first | omega | (split at hp <;> omega)
            omega
          · have : ¬ 16 ≤ max x y := fun z => by
              unfold pOf at hp
              split at hp <;> first | omega | (split at hp <;> omega)
            omega
          · omega
        | f + 4, _ =>
          have hx' : x < 256 := hx
          have hy' : y < 256 := hy
          show x % p < 256 ∧ y % p < 256 ∧ x / p < 256 ∧ y / p < 256 ∧ p / 2 < 256
          rcases hp3 with rfl | rfl | rfl <;> omega
      obtain ⟨b1, b2, b3, b4, b5⟩ := b1
      have t1 := times_ok f (x % p) (y % p) S (by omega) b1 b2
      have t2 := times_ok f (x / p) (y / p) S (by omega) b3 b4
      have t3 := times_ok f (x / p ^^^ x % p) (y / p ^^^ y % p) S (by omega) (bnd_xor f _ _ b3 b1) (bnd_xor f _ _ b4 b2)
      have t4 := times_ok f (tmF f (x / p) (y / p)) (p / 2) S (by omega) (tm_lt f (by omega) _ _ b3 b4) b5
      have d1 : divOk (p : Int) = true := divOk_of (by omega) (by omega)
      have d2 : divOk 2 = true := divOk_of (by decide) (by decide)
      have hp0 : (0 : Int) < (p : Int) := by omega
      have n1 : ∀ a : Nat, (a : Int) / (p : Int) = ((a / p : Nat) : Int) := fun a => by simp
      have n2 : ∀ a : Nat, (a : Int) % (p : Int) = ((a % p : Nat) : Int) := fun a => by simp
      have n3 : (p : Int) / 2 = ((p / 2 : Nat) : Int) := by omega
      have n4 : ∀ a : Nat, (a : Int) * (p : Int) = ((a * p : Nat) : Int) := fun a => by simp
      have m1 : ∀ a : Int, mulOk a (p : Int) = true := fun a => mulOk_r (by omega) (by omega)
      have e : tmF (f + 1) x y = ((tmF f (x / p ^^^ x % p) (y / p ^^^ y % p) ^^^ tmF f (x % p) (y % p)) * p ^^^ tmF f (x % p) (y % p)) ^^^ tmF f (tmF f (x / p) (y / p)) (p / 2) := by
        conv => lhs; unfold tmF
        rw [if_neg h, hp]
        rfl
      rw [e]
      have g1 : ¬ (x : Int) < 2 := by omega
      have g2 : ¬ (y : Int) < 2 := by omega
      have z0 : s_times_0 (F_times f) [some (.d (.int x)), some (.d (.int y)), none, none, none, none, none, none, none, none, none] S = some (.nx [some (.d (.int x)), some (.d (.int y)), none, none, none, none, none, none, none, none, none] S) := by
        simp [s_times_0, vLt, g1, g2]
      have hst : ([W.d (.int x), W.d (.int y)].map some ++ List.replicate (11 - [W.d (.int x), W.d (.int y)].length) none : DL.Env) = [some (.d (.int x)), some (.d (.int y)), none, none, none, none, none, none, none, none, none] := rfl
      unfold fnD
      rw [hst]
      simp only [b_times, mSeq, z0, hpart, Option.bind_some]
      simp only [s_times_2, s_times_3, s_times_4, s_times_5, s_times_6, mPar2, mCons, mNil, mBin, mVar, mCallF, mAsg, mRet, mC, List.getElem?_cons_succ, List.getElem?_cons_zero, Option.bind_some, Option.map_some, id, DL.fdiv_int, DL.mod_int, d1, d2, hp0, if_true, n1, n2, n3, List.set_cons_succ, List.set_cons_zero, List.length_cons, List.length_nil, Nat.reduceAdd, decide_true, t1, t2, DL.int2_int, xor_nat, t3, DL.mul_int, m1, n4, t4, trim_d, List.take_length]
/-! sums -/
def X (xs : List Nat) : Nat := xs.foldl (fun a b => a ^^^ b) 0
theorem bit_xor (a b k : Nat) : (a ^^^ b) / 2 ^ k % 2 = (a / 2 ^ k % 2 + b / 2 ^ k % 2) % 2 := by
  have h := Nat.shiftRight_xor_distrib (a := a) (b := b) (i := k)
  rw [Nat.shiftRight_eq_div_pow, Nat.shiftRight_eq_div_pow, Nat.shiftRight_eq_div_pow] at h
  rw [h]
  have := Nat.xor_mod_two_pow (a := a / 2 ^ k) (b := b / 2 ^ k) (n := 1)
  simp only [Nat.pow_one] at this
  rw [this]
  have h1 : a / 2 ^ k % 2 = 0 ∨ a / 2 ^ k % 2 = 1 := by omega
  have h2 : b / 2 ^ k % 2 = 0 ∨ b / 2 ^ k % 2 = 1 := by omega
  rcases h1 with h1 | h1 <;> rcases h2 with h2 | h2 <;> rw [h1, h2] <;> rfl
theorem bits_sum (k : Nat) : ∀ (xs : List Nat) (acc : Nat), (acc / 2 ^ k % 2 + (xs.map fun n => n / 2 ^ k % 2).sum) % 2 = (xs.foldl (fun a b => a ^^^ b) acc) / 2 ^ k % 2
  | [], acc => by simp
  | x :: xs, acc => by
    have ih := bits_sum k xs (acc ^^^ x)
    rw [bit_xor] at ih
    simp only [List.map_cons, List.sum_cons, List.foldl_cons]
    rw [← ih]
    omega
theorem X_lt (n : Nat) : ∀ (xs : List Nat) (acc : Nat), acc < 2 ^ n → (∀ x ∈ xs, x < 2 ^ n) → xs.foldl (fun a b => a ^^^ b) acc < 2 ^ n
  | [], acc, h, _ => h
  | x :: xs, acc, h, hx => X_lt n xs (acc ^^^ x) (Nat.xor_lt_two_pow h (hx x (by simp))) fun y hy => hx y (by simp [hy])
theorem sum_nat : ∀ xs : List Nat, ((xs.map fun (n : Nat) => (n : Int)).sum) = ((xs.sum : Nat) : Int)
  | [] => rfl
  | x :: xs => by simp [sum_nat xs]
theorem sum_step (xs : List Nat) (hl : xs.length ≤ 16777216) (S : Sto) (j : Nat) (hj : j < 10) (x3 x4 : Option W) :
    l_law_sum_2 [some (.d (.tuple (nn xs))), some (.d (.int ((X xs % 2 ^ j : Nat) : Int))), some (.d (.int ((2 ^ j : Nat) : Int))), x3, x4] S =
      some (.nx [some (.d (.tuple (nn xs))), some (.d (.int ((X xs % 2 ^ (j + 1) : Nat) : Int))), some (.d (.int ((2 ^ (j + 1) : Nat) : Int))), x3, x4] S) := by
  have hpos : 0 < 2 ^ j := Nat.two_pow_pos j
  have hle : 2 ^ j ≤ 2 ^ 10 := Nat.pow_le_pow_right (by decide) (by omega)
  have h1 := bits_sum j xs 0
  have e1 : X xs % 2 ^ (j + 1) = X xs % 2 ^ j + 2 ^ j * (X xs / 2 ^ j % 2) := by rw [Nat.pow_succ, Nat.mod_mul]
  rw [e1]
  have e2 : 2 ^ (j + 1) = 2 * 2 ^ j := by rw [Nat.pow_succ, Nat.mul_comm]
  rw [e2]
  unfold X
  rw [← h1]
  generalize 2 ^ j = q at *
  have d1 : divOk (q : Int) = true := divOk_of (by omega) (by omega)
  have m1 : ∀ a : Int, mulOk (q : Int) a = true := fun a => mulOk_l (by omega) (by omega)
  have m2 : ∀ a : Int, mulOk 2 a = true := fun a => mulOk_l (by decide) (by decide)
  have c1 : ∀ v : Option W, compM (gN 4) mYes (mBin vMod (mBin vFdiv (mVar 4) (mVar 2)) (mInt 2)) (nn xs) [some (.d (.tuple (nn xs))), v, some (.d (.int (q : Int))), x3, none] S [] = some (nn (xs.map fun n => n / q % 2), S) := fun v => by
    have := compM_mapE0 (g := gN 4) (m := mBin vMod (mBin vFdiv (mVar 4) (mVar 2)) (mInt 2)) (σ := [some (.d (.tuple (nn xs))), v, some (.d (.int (q : Int))), x3, none]) (S := S) (fun (n : Nat) => PyData.int (n : Int)) (fun (n : Nat) => PyData.int ((n / q % 2 : Nat) : Int)) xs hl fun n hn => ⟨_, rfl, by simp [d1]⟩
    rw [this]
    simp [nn]
  have v1 : vSum S (.d (.list (nn (xs.map fun n => n / q % 2)))) = some (.d (.int (((xs.map fun n => n / q % 2).sum : Nat) : Int))) := by
    simp only [vSum, seqOf_d, Option.bind_some, intsOf_nn, Option.map_some, sum_nat]
  have hz : ((0 / q % 2 + (xs.map fun n => n / q % 2).sum) % 2 : Nat) = (xs.map fun n => n / q % 2).sum % 2 := by simp
  rw [hz]
  simp only [nn] at c1 v1
  generalize (xs.map fun n => n / q % 2).sum = w at *
  generalize xs.foldl (fun a b => a ^^^ b) 0 % q = a at *
  simp [l_law_sum_2, s_law_sum_1, asS, c1, v1, m1, m2, -List.map_map]
theorem law_sum_ok (xs : List Nat) (hl : xs.length ≤ 16777216) (hx : ∀ x ∈ xs, x < 1024) (S : Sto) : F_law_sum [.d (.tuple (nn xs))] S = some (.d (.int (X xs)), S) := by
  have r1 : big62 10 = true := big62_of (by decide) (by decide)
  obtain ⟨σ', S', f1, x3, x4, rfl, rfl⟩ := forM_nx (g := gN 3) (b := l_law_sum_2) (fun j σ T => ∃ x3 x4, σ = [some (.d (.tuple (nn xs))), some (.d (.int ((X xs % 2 ^ j : Nat) : Int))), some (.d (.int ((2 ^ j : Nat) : Int))), x3, x4] ∧ T = S)
    (rangeD 0 10) 0 [some (.d (.tuple (nn xs))), some (.d (.int 0)), some (.d (.int 1)), none, none] S ⟨none, none, by simp [Nat.mod_one], rfl⟩ (by
      rintro i d σ T hi ⟨x3, x4, rfl, rfl⟩
      have hic : i < 10 := by
        have := (List.getElem?_eq_some_iff.mp hi).1
        simpa using this
      rw [Nat.zero_add]
      exact ⟨_, _, _, rfl, sum_step xs hl T i hic (some (.d d)) x4, _, _, rfl, rfl⟩)
  have hX : X xs % 2 ^ (0 + (rangeD 0 10).length) = X xs := Nat.mod_eq_of_lt (X_lt 10 xs 0 (by decide) hx)
  rw [hX] at f1
  have z0 : s_law_sum_0 [some (.d (.tuple (nn xs))), none, none, none, none] S' = some (.nx [some (.d (.tuple (nn xs))), some (.d (.int 0)), some (.d (.int 1)), none, none] S') := rfl
  have z3 : s_law_sum_3 [some (.d (.tuple (nn xs))), some (.d (.int 0)), some (.d (.int 1)), none, none] S' = DL.forM (gN 3) l_law_sum_2 (rangeD 0 10) [some (.d (.tuple (nn xs))), some (.d (.int 0)), some (.d (.int 1)), none, none] S' := by
    simp only [s_law_sum_3, mFor, iR1, mCons, mNil, mC, Option.bind_some, Option.map_some, r1, if_true]
    rfl
  rw [f1] at z3
  have hst : ([W.d (.tuple (nn xs))].map some ++ List.replicate (5 - [W.d (.tuple (nn xs))].length) none : DL.Env) = [some (.d (.tuple (nn xs))), none, none, none, none] := rfl
  unfold F_law_sum fnD
  rw [hst]
  simp only [b_law_sum, mSeq, z0, z3, Option.bind_some, mRet, mVar, List.getElem?_cons_succ, List.getElem?_cons_zero, Option.map_some, id, trim_d, List.take_length]
/-! the heaps' own sums and products -/
theorem sum_by_go : ∀ (xs : List Nat) (acc : Nat) (x0 x2 : Option W) (S : Sto), ∃ x2', DL.forM (gN 2) l_sum_by_0 (nn xs) [x0, some (.d (.int (acc : Int))), x2] S = some (.nx [x0, some (.d (.int ((xs.foldl (fun a b => a ^^^ b) acc : Nat) : Int))), x2'] S)
  | [], acc, x0, x2, S => ⟨x2, rfl⟩
  | x :: xs, acc, x0, x2, S => by
    obtain ⟨x2', h⟩ := sum_by_go xs (acc ^^^ x) x0 (some (.d (.int x))) S
    refine ⟨x2', ?_⟩
    have e : l_sum_by_0 [x0, some (.d (.int (acc : Int))), some (.d (.int (x : Int)))] S = some (.nx [x0, some (.d (.int ((acc ^^^ x : Nat) : Int))), some (.d (.int (x : Int)))] S) := by
      simp only [l_sum_by_0, mAsg, mBin, mVar, List.getElem?_cons_succ, List.getElem?_cons_zero, Option.bind_some, Option.map_some, id, DL.int2_int, xor_nat, List.set_cons_succ, List.set_cons_zero]
    simp only [nn, List.map_cons, DL.forM, gN, List.set_cons_succ, List.set_cons_zero, Option.bind_some, e, List.foldl_cons]
    exact h
theorem sum_by_ok (xs : List Nat) (S : Sto) : F_sum_by [.d (.tuple (nn xs))] S = some (.d (.int (X xs)), S) := by
  obtain ⟨x2', h⟩ := sum_by_go xs 0 (some (.d (.tuple (nn xs)))) none S
  unfold F_sum_by fnD b_sum_by
  simp only [mSeq, mAsg, mC, mFor, iS, mVar, asS, asP, asT, mRet, List.map_cons, List.map_nil, List.length_cons, List.length_nil, List.replicate, List.cons_append, List.nil_append, List.getElem?_cons_succ, List.getElem?_cons_zero, Option.bind_some, Option.map_some, id, List.set_cons_succ, List.set_cons_zero]
  rw [show (0 : Int) = ((0 : Nat) : Int) from rfl, h]
  simp [X]
theorem is_heap_ok (S : Sto) (x : Nat) (h : x < 256) : F_is_heap [.d (.int x)] S = some (.d (.bool true), S) := by
  have e : (0 : Int) ≤ (x : Int) ∧ (x : Int) ≤ 255 := by omega
  simp [F_is_heap, fnD, b_is_heap, e]
theorem check_heap_ok (S : Sto) (x : Nat) (h : x < 256) : F_check_heap [.d (.int x)] S = some (.d .none, S) := by
  simp [F_check_heap, fnD, b_check_heap, is_heap_ok S x h]
theorem product_ok (S : Sto) (x y : Nat) (hx : x < 256) (hy : y < 256) : F_product [.d (.int x), .d (.int y)] S = some (.d (.int (M x y)), S) := by
  have t := times_ok 6 x y S (by decide) hx hy
  rw [tmF_eq 5 x y (by decide) (by decide) hx hy] at t
  simp [F_product, fnD, b_product, s_product_0, s_product_1, F_check_two, b_check_two, s_check_two_0, s_check_two_1, check_heap_ok S x hx, check_heap_ok S y hy, t]
theorem square_ok (S : Sto) (x : Nat) (hx : x < 256) : F_square [.d (.int x)] S = some (.d (.int (M x x)), S) := by
  have t := times_ok 6 x x S (by decide) hx hx
  rw [tmF_eq 5 x x (by decide) (by decide) hx hx] at t
  simp [F_square, fnD, b_square, s_square_0, s_square_1, check_heap_ok S x hx, t]
theorem sum_of_ok (xs : List Nat) (hl : xs.length ≤ 40) (hx : ∀ x ∈ xs, x < 256) (S : Sto) : F_sum_of [.d (.tuple (nn xs))] S = some (.d (.int (X xs)), S) := by
  have c1 := compM_mapE0 (g := gN 1) (m := mCallF 1 F_is_heap (mCons (mVar 1) mNil)) (σ := [some (.d (.tuple (nn xs))), none]) (S := S) (fun (n : Nat) => PyData.int (n : Int)) (fun _ => .bool true) xs (by omega) fun n hn => ⟨_, rfl, by simp [is_heap_ok S n (hx n hn)]⟩
  have a1 := all_map_true xs (fun _ => PyData.bool true) (fun _ _ => rfl) S
  have g : ¬ (40 : Int) < (xs.length : Int) := by omega
  have s1 := sum_by_ok xs S
  simp only [nn] at *
  simp [F_sum_of, fnD, b_sum_of, s_sum_of_0, s_sum_of_1, asS, vGt, g, c1, a1, s1, -List.map_map, -List.map_const]
/-! the table -/
theorem least_ok (xs : List Nat) (m : Nat) (hl : xs.length ≤ 1000) (h : ((List.range (xs.length + 1)).filter fun i => !decide (i ∈ xs)).head? = some m) (S : Sto) : F_law_least [.d (.list (nn xs))] S = some (.d (.int m), S) := by
  have r1 : big62 ((xs.length : Int) + 1) = true := big62_of (by omega) (by omega)
  have c1 := compM_filterE (g := gN 1) (t := mB (mBin vNotIn (mVar 1) (mVar 0))) (m := mVar 1) (σ := [some (.d (.list (nn xs))), none]) (S := S) (fun (n : Nat) => PyData.int (n : Int)) (fun (n : Nat) => PyData.int (n : Int)) (fun i => !decide (i ∈ xs)) (List.range (xs.length + 1)) [] (by simp; omega) fun i _ => ⟨_, rfl, by
    have := notIn_nn S i xs
    simp only [nn] at this ⊢
    simp [this], fun _ => by simp⟩
  cases e : ((List.range (xs.length + 1)).filter fun i => !decide (i ∈ xs)) with
  | nil => rw [e] at h; cases h
  | cons y ys =>
    rw [e] at h c1
    have hy : y = m := by simpa using h
    subst hy
    have ha : atI (PyData.int (y : Int) :: nn ys) 0 = some (.int (y : Int)) := by
      rw [atI_pos (by decide) (by simp)]
      rfl
    have tn : ((xs.length : Int) + 1).toNat = xs.length + 1 := by omega
    have hr := rangeD0 (xs.length + 1)
    simp only [nn, List.map_cons, List.nil_append] at c1 ha hr ⊢
    simp [F_law_least, fnD, b_law_least, r1, tn, hr, c1, ha]
def ent (i : Nat) : List Key × D := ([.inl ((i / 10 : Nat) : Int), .inl ((i % 10 : Nat) : Int)], .int ((M (i / 10) (i % 10) : Nat) : Int))
def kvs (m : Nat) : List (List Key × D) := (List.range m).map ent
theorem ent_inj {i j : Nat} (h : (ent i).1 = (ent j).1) : i = j := by
  unfold ent at h
  simp only [List.cons.injEq, Sum.inl.injEq, and_true] at h
  omega
theorem kvs_succ (m : Nat) : kvs (m + 1) = kvs m ++ [ent m] := by simp [kvs, List.range_succ]
theorem kvs_new (m : Nat) : valD (kvs m) (ent m).1 = none := by
  unfold valD
  rw [Option.map_eq_none_iff, List.find?_eq_none]
  intro kv hkv
  obtain ⟨i, hi, rfl⟩ := List.mem_map.mp hkv
  have := List.mem_range.mp hi
  rw [decide_eq_true_eq]
  intro e
  have := ent_inj e
  omega
theorem kvs_old {m j : Nat} (h : j < m) : valD (kvs m) (ent j).1 = some (ent j).2 := by
  induction m with
  | zero => omega
  | succ m ih =>
    by_cases e : j = m
    · subst e
      have := kvs_new j
      unfold valD at this ⊢
      rw [Option.map_eq_none_iff] at this
      rw [kvs_succ, List.find?_append, this]
      simp
    · have := ih (by omega)
      unfold valD at this ⊢
      rw [Option.map_eq_some_iff] at this
      obtain ⟨kv, h1, h2⟩ := this
      rw [kvs_succ, List.find?_append, h1]
      simp [h2]
theorem kvs_at {m a b : Nat} (hb : b < 10) (h : 10 * a + b < m) : valD (kvs m) [.inl (a : Int), .inl (b : Int)] = some (.int ((M a b : Nat) : Int)) := by
  have := kvs_old h
  unfold ent at this
  rw [show (10 * a + b) / 10 = a by omega, show (10 * a + b) % 10 = b by omega] at this
  exact this
theorem kvs_put {m a b : Nat} (hb : b < 10) (h : 10 * a + b = m) : putD (kvs m) [.inl (a : Int), .inl (b : Int)] (.int ((M a b : Nat) : Int)) = kvs (m + 1) := by
  have hn := kvs_new m
  have he : ent m = ([.inl (a : Int), .inl (b : Int)], .int ((M a b : Nat) : Int)) := by
    unfold ent
    rw [show m / 10 = a by omega, show m % 10 = b by omega]
  rw [he] at hn
  rw [kvs_succ, he]
  simp [putD, hn]
def vOf (x y a b : Nat) : Nat := X [M a y, M x b, M a b]
def row (x y a : Nat) : List Nat := (List.range y).map (vOf x y a)
def lst (x y : Nat) : Nat → List Nat
  | 0 => []
  | a + 1 => lst x y a ++ row x y a
theorem lst_mex : ∀ x, x < 10 → ∀ y, y < 10 → ((List.range ((lst x y x).length + 1)).filter fun i => !decide (i ∈ lst x y x)).head? = some (M x y) ∧ (lst x y x).length ≤ 1000 := by decide +kernel
theorem tab0_ok (T : Sto) (L m x y a : Nat) (hT : T[L]? = some (.dT (kvs m))) (hm : 10 * x + y = m) (hx : x < 10) (hy : y < 10) (ha : a < x) (acc : List Nat) (hacc : acc.length + 10 ≤ 1000) (x0 x6 : Option W) :
    l_law_table_0 [x0, some (.loc L), some (.d (.int x)), some (.d (.int y)), some (.loc T.length), some (.d (.int a)), x6] (T ++ [.lst (nn acc)]) =
      some (.nx [x0, some (.loc L), some (.d (.int x)), some (.d (.int y)), some (.loc T.length), some (.d (.int a)), x6] (T ++ [.lst (nn (acc ++ row x y a))])) := by
  have hlt : L < T.length := (List.getElem?_eq_some_iff.mp hT).1
  have hT2 : (T ++ [O.lst (nn acc)])[L]? = some (.dT (kvs m)) := by rw [List.getElem?_append_left hlt]; exact hT
  have r1 : big62 (y : Int) = true := big62_of (by omega) (by omega)
  have c1 := compM_mapE0 (g := gN 6) (m := mCallF 1 F_law_sum (mCons (mTup (mCons (mBin vDGet (mVar 1) (mTup (mCons (mVar 5) (mCons (mVar 3) (mNil))))) (mCons (mBin vDGet (mVar 1) (mTup (mCons (mVar 2) (mCons (mVar 6) (mNil))))) (mCons (mBin vDGet (mVar 1) (mTup (mCons (mVar 5) (mCons (mVar 6) (mNil))))) (mNil))))) (mNil)))
    (σ := [x0, some (.loc L), some (.d (.int x)), some (.d (.int y)), some (.loc T.length), some (.d (.int a)), none]) (S := T ++ [.lst (nn acc)]) (fun (n : Nat) => PyData.int (n : Int)) (fun b => .int ((vOf x y a b : Nat) : Int)) (List.range y) (by simp; omega) fun b hb => by
      have hb := List.mem_range.mp hb
      have k1 := look_key hT2 (a : Int) (y : Int)
      have k2 := look_key hT2 (x : Int) (b : Int)
      have k3 := look_key hT2 (a : Int) (b : Int)
      rw [kvs_at hy (by omega)] at k1
      rw [kvs_at (by omega) (by omega)] at k2
      rw [kvs_at (by omega) (by omega)] at k3
      have ls := law_sum_ok [M a y, M x b, M a b] (by simp) (by
        intro z hz
        have := M_lt a y
        have := M_lt x b
        have := M_lt a b
        simp at hz
        omega) (T ++ [.lst (nn acc)])
      simp only [nn, List.map_cons, List.map_nil] at ls k1 k2 k3 ⊢
      exact ⟨_, rfl, by simp [fits, vDGet, k1, k2, k3, ls, vOf]⟩
  have e : nn (acc ++ row x y a) = nn acc ++ (List.range y).map fun b => PyData.int ((vOf x y a b : Nat) : Int) := by simp [nn, row]
  have hf : fits (acc.length + y) = true := decide_eq_true (by omega)
  have hr := rangeD0 y
  rw [e]
  simp only [nn] at *
  simp [l_law_table_0, isLoc, gExtend, r1, hr, c1, hf, -List.map_map]
theorem lst_len (x y : Nat) (hy : y < 10) : ∀ a, (lst x y a).length ≤ 10 * a
  | 0 => by simp [lst]
  | a + 1 => by
    have := lst_len x y hy a
    simp only [lst, List.length_append, row, List.length_map, List.length_range]
    omega
theorem tab3_ok (T : Sto) (L m x y : Nat) (hT : T[L]? = some (.dT (kvs m))) (hm : 10 * x + y = m) (hx : x < 10) (hy : y < 10) (x0 x4 x5 x6 : Option W) :
    ∃ y4 y5, l_law_table_3 [x0, some (.loc L), some (.d (.int x)), some (.d (.int y)), x4, x5, x6] T =
      some (.nx [x0, some (.loc L), some (.d (.int x)), some (.d (.int y)), y4, y5, x6] (T.set L (.dT (kvs (m + 1))) ++ [.dead])) := by
  have hlt : L < T.length := (List.getElem?_eq_some_iff.mp hT).1
  have r1 : big62 (x : Int) = true := big62_of (by omega) (by omega)
  obtain ⟨σ', S', f1, x5', rfl, rfl⟩ := forM_nx (g := gN 5) (b := l_law_table_0) (fun j σ U => ∃ x5, σ = [x0, some (.loc L), some (.d (.int x)), some (.d (.int y)), some (.loc T.length), x5, x6] ∧ U = T ++ [.lst (nn (lst x y j))])
    (rangeD 0 x) 0 [x0, some (.loc L), some (.d (.int x)), some (.d (.int y)), some (.loc T.length), x5, x6] (T ++ [.lst []]) ⟨x5, rfl, rfl⟩ (by
      rintro i d σ U hi ⟨z5, rfl, rfl⟩
      have hic : i < x := by
        have := (List.getElem?_eq_some_iff.mp hi).1
        simpa using this
      rw [rangeD_at x 0 i hic, Int.zero_add] at hi
      cases hi
      have hl := lst_len x y hy (0 + i)
      exact ⟨_, _, _, rfl, tab0_ok T L m x y i hT hm hx hy hic _ (by omega) x0 x6, _, rfl, by rw [Nat.zero_add]; rfl⟩)
  rw [rangeD_length, Nat.zero_add] at f1
  obtain ⟨q1, q2⟩ := lst_mex x hx y hy
  have le := least_ok (lst x y x) (M x y) q2 q1 (T ++ [.dead])
  have hT2 : (T ++ [O.dead])[L]? = some (.dT (kvs m)) := by rw [List.getElem?_append_left hlt]; exact hT
  have hset : (T ++ [O.dead]).set L (.dT (kvs (m + 1))) = T.set L (.dT (kvs (m + 1))) ++ [.dead] := List.set_append_left _ _ hlt
  have hput := kvs_put hy hm
  have hf : fits ((kvs m).length + 1) = true := decide_eq_true (by simp [kvs]; omega)
  have z0 : mAsg 4 (mNew mNil) [x0, some (.loc L), some (.d (.int x)), some (.d (.int y)), x4, x5, x6] T = some (.nx [x0, some (.loc L), some (.d (.int x)), some (.d (.int y)), some (.loc T.length), x5, x6] (T ++ [.lst []])) := rfl
  have z1 : s_law_table_1 [x0, some (.loc L), some (.d (.int x)), some (.d (.int y)), some (.loc T.length), x5, x6] (T ++ [.lst []]) = some (.nx [x0, some (.loc L), some (.d (.int x)), some (.d (.int y)), some (.loc T.length), x5', x6] (T ++ [.lst (nn (lst x y x))])) := by
    simp [s_law_table_1, r1, f1]
  have z2 : mFrzV 4 [x0, some (.loc L), some (.d (.int x)), some (.d (.int y)), some (.loc T.length), x5', x6] (T ++ [.lst (nn (lst x y x))]) = some (.nx [x0, some (.loc L), some (.d (.int x)), some (.d (.int y)), some (.d (.list (nn (lst x y x)))), x5', x6] (T ++ [.dead])) := by
    simp [mFrzV, frz]
  have z3 : s_law_table_2 [x0, some (.loc L), some (.d (.int x)), some (.d (.int y)), some (.d (.list (nn (lst x y x)))), x5', x6] (T ++ [.dead]) = some (.nx [x0, some (.loc L), some (.d (.int x)), some (.d (.int y)), some (.d (.list (nn (lst x y x)))), x5', x6] (T.set L (.dT (kvs (m + 1))) ++ [.dead])) := by
    simp [s_law_table_2, le, fits, vSetI, hT2, keyT, keysD, keyD, hput, hset]
    simpa [fits] using hf
  exact ⟨some (.d (.list (nn (lst x y x)))), x5', by simp only [l_law_table_3, mSeq, z0, z1, z2, z3, Option.bind_some]⟩
theorem tab4_ok (T : Sto) (L x : Nat) (hT : T[L]? = some (.dT (kvs (10 * x)))) (hx : x < 10) (x3 x4 x5 x6 : Option W) :
    ∃ y3 y4 y5 T', l_law_table_4 [some (.d (.int 10)), some (.loc L), some (.d (.int x)), x3, x4, x5, x6] T = some (.nx [some (.d (.int 10)), some (.loc L), some (.d (.int x)), y3, y4, y5, x6] T') ∧
      T'[L]? = some (.dT (kvs (10 * (x + 1)))) ∧ T'.take L = T.take L := by
  have r1 : big62 10 = true := big62_of (by decide) (by decide)
  obtain ⟨σ', S', f1, y3, y4, y5, rfl, g1, g2⟩ := forM_nx (g := gN 3) (b := l_law_table_3) (fun j σ U => ∃ x3 x4 x5, σ = [some (.d (.int 10)), some (.loc L), some (.d (.int x)), x3, x4, x5, x6] ∧ U[L]? = some (.dT (kvs (10 * x + j))) ∧ U.take L = T.take L)
    (rangeD 0 10) 0 [some (.d (.int 10)), some (.loc L), some (.d (.int x)), x3, x4, x5, x6] T ⟨x3, x4, x5, rfl, hT, rfl⟩ (by
      rintro i d σ U hi ⟨z3, z4, z5, rfl, g1, g2⟩
      have hic : i < 10 := by
        have := (List.getElem?_eq_some_iff.mp hi).1
        simpa using this
      rw [rangeD_at 10 0 i hic, Int.zero_add] at hi
      cases hi
      rw [Nat.zero_add] at g1 ⊢
      have hlt : L < U.length := (List.getElem?_eq_some_iff.mp g1).1
      obtain ⟨w4, w5, e⟩ := tab3_ok U L (10 * x + i) x i g1 rfl hx hic (some (.d (.int 10))) z4 z5 x6
      refine ⟨_, _, _, rfl, e, _, _, _, rfl, ?_, ?_⟩
      · rw [List.getElem?_append_left (by simp; exact hlt)]
        simp [hlt, Nat.add_assoc]
      · rw [List.take_append_of_le_length (by simp; omega), List.take_set_of_le (Nat.le_refl _), g2])
  rw [rangeD_length] at g1
  refine ⟨y3, y4, y5, S', ?_, by rw [show 10 * (x + 1) = 10 * x + (0 + 10) by omega]; exact g1, g2⟩
  simp [l_law_table_4, r1, f1]
theorem table_ok (S : Sto) : F_law_table [.d (.int 10)] S = some (.loc S.length, S ++ [.dT (kvs 100)]) := by
  have r1 : big62 10 = true := big62_of (by decide) (by decide)
  obtain ⟨σ', S', f1, y2, y3, y4, y5, rfl, g1, g2⟩ := forM_nx (g := gN 2) (b := l_law_table_4) (fun j σ U => ∃ x2 x3 x4 x5, σ = [some (.d (.int 10)), some (.loc S.length), x2, x3, x4, x5, none] ∧ U[S.length]? = some (.dT (kvs (10 * j))) ∧ U.take S.length = S)
    (rangeD 0 10) 0 [some (.d (.int 10)), some (.loc S.length), none, none, none, none, none] (S ++ [.dT []]) ⟨none, none, none, none, rfl, by simp [kvs], by simp⟩ (by
      rintro i d σ U hi ⟨z2, z3, z4, z5, rfl, g1, g2⟩
      have hic : i < 10 := by
        have := (List.getElem?_eq_some_iff.mp hi).1
        simpa using this
      rw [rangeD_at 10 0 i hic, Int.zero_add] at hi
      cases hi
      rw [Nat.zero_add] at g1 ⊢
      obtain ⟨w3, w4, w5, T', e, h1, h2⟩ := tab4_ok U S.length i g1 hic z3 z4 z5 none
      exact ⟨_, _, _, rfl, e, _, _, _, _, rfl, h1, by rw [h2]; exact g2⟩)
  rw [rangeD_length] at g1
  have g1' : S'[S.length]? = some (.dT (kvs 100)) := g1
  have z1 : s_law_table_5 [some (.d (.int 10)), some (.loc S.length), none, none, none, none, none] (S ++ [.dT []]) = some (.nx [some (.d (.int 10)), some (.loc S.length), y2, y3, y4, y5, none] S') := by
    simp [s_law_table_5, r1, f1]
  have ht := trim_at S S' S.length _ (Nat.le_refl _) g1'
  rw [g2] at ht
  simp [F_law_table, fnD, b_law_table, z1, ht]
/-! small ones -/
theorem show_1024 : ∀ k : Nat, k < 1024 → showOk (.int (k : Int)) = true := by decide +kernel
theorem repr_n {S : Sto} {k : Nat} (h : k < 1024) : vRepr S (.d (.int (k : Int))) = some (.d (.str (PyData.int (k : Int)).shown)) := repr_d (show_1024 k h)
theorem small_ok (S : Sto) : F_law_is_small_right [] S = some (.d (.bool true), S) := by
  have ht := table_ok S
  have hk : keysOf (.td true (kvs 100)) = some ((List.range 100).map fun i => PyData.tuple [.int ((i / 10 : Nat) : Int), .int ((i % 10 : Nat) : Int)]) := by
    simp [keysOf, kvs, ent, kD]
  have c1 := compM_mapE0 (g := gTup 2 (gCons (gN 1) (gCons (gN 2) gNil))) (m := mBin vEq (mCall (pure1 vRepr) (mCons (mCallK [0, 1] 2 F_product (mCons (mVar 1) (mCons (mVar 2) (mNil)))) (mNil))) (mCall (pure1 vRepr) (mCons (mBin vDGet (mVar 0) (mTup (mCons (mVar 1) (mCons (mVar 2) (mNil))))) (mNil))))
    (σ := [some (.td true (kvs 100)), none, none]) (S := S ++ [.dead]) (fun (i : Nat) => PyData.tuple [.int ((i / 10 : Nat) : Int), .int ((i % 10 : Nat) : Int)]) (fun _ => .bool true) (List.range 100) (by simp) fun i hi => by
      have hi := List.mem_range.mp hi
      have pr := product_ok (S ++ [.dead]) (i / 10) (i % 10) (by omega) (by omega)
      have kv := kvs_at (m := 100) (a := i / 10) (b := i % 10) (by omega) (by omega)
      have rp := repr_n (S := S ++ [.dead]) (k := M (i / 10) (i % 10)) (by have := M_lt (i / 10) (i % 10); omega)
      generalize hm : M (i / 10) (i % 10) = mm at *
      generalize i / 10 = a at *
      generalize i % 10 = b at *
      exact ⟨[some (.td true (kvs 100)), some (.d (.int a)), some (.d (.int b))], by simp, by simp [permL, pr, rp, fits, vDGet, lookD, keyT, keysD, keyD, kv, eq_str_same]⟩
  have a1 := all_map_true (List.range 100) (fun _ => PyData.bool true) (fun _ _ => rfl) (S ++ [.dead])
  have z0 : s_law_is_small_right_0 [none, none, none] S = some (.nx [some (.loc S.length), none, none] (S ++ [.dT (kvs 100)])) := by
    simp [s_law_is_small_right_0, ht]
  have z1 : mFrzV 0 [some (.loc S.length), none, none] (S ++ [.dT (kvs 100)]) = some (.nx [some (.td false (kvs 100)), none, none] (S ++ [.dead])) := by
    simp [mFrzV, frz]
  have z2 : s_law_is_small_right_1 [some (.td false (kvs 100)), none, none] (S ++ [.dead]) = some (.rt (.d (.bool true)) (S ++ [.dead])) := by
    simp only [s_law_is_small_right_1, mLock, lockW, unlE, unl, List.map_cons, List.map_nil, Option.map_some, Option.map_none, List.getElem?_cons_zero, Option.bind_some, id, List.set_cons_zero, mRet, mCall, mCons, mNil, mComp, iK, mVar, hk, wipeD, List.set_cons_succ, c1, pure1, a1, unlO, List.nil_append]
  have hst : (([] : List W).map some ++ List.replicate (3 - ([] : List W).length) none : DL.Env) = [none, none, none] := rfl
  unfold F_law_is_small_right fnD
  rw [hst]
  simp only [b_law_is_small_right, mSeq, z0, z1, z2, Option.bind_some, trim_d]
  simp
theorem X2 (a b : Nat) : X [a, b] = a ^^^ b := by simp [X]
theorem three_ok (S : Sto) (x y z : Nat) (hx : x < 256) (hy : y < 256) (hz : z < 256) : F_law_are_three_right [.d (.int x), .d (.int y), .d (.int z)] S = some (.d (.bool true), S) := by
  have hb : y ^^^ z < 256 := Nat.xor_lt_two_pow (n := 8) hy hz
  have lt2 : ∀ a b : Nat, a < 256 → b < 256 → ∀ n ∈ [a, b], n < 1024 := fun a b h1 h2 n hn => by simp at hn; omega
  have lt3 : ∀ a b : Nat, a < 256 → b < 256 → ∀ n ∈ [a, b], n < 256 := fun a b h1 h2 n hn => by simp at hn; omega
  have s0 := sum_of_ok [y, z] (by simp) (lt3 y z hy hz) S
  have l0 := law_sum_ok [y, z] (by simp) (lt2 y z hy hz) S
  have l1 := law_sum_ok [M x y, M x z] (by simp) (lt2 _ _ (M_lt _ _) (M_lt _ _)) S
  have l2 := law_sum_ok [M y y, M z z] (by simp) (lt2 _ _ (M_lt _ _) (M_lt _ _)) S
  rw [X2] at s0 l0 l1 l2
  rw [← M_add] at l1
  have e2 : M y y ^^^ M z z = M (y ^^^ z) (y ^^^ z) := by
    rw [M_add, M_add', M_add', M_comm z y]
    have := Nat.xor_self (M y z)
    calc _ = M y y ^^^ (M y z ^^^ M y z) ^^^ M z z := by rw [this, Nat.xor_zero]
      _ = _ := by ac_rfl
  rw [e2] at l2
  have p1 := product_ok S x (y ^^^ z) hx hb
  have p2 := product_ok S x y hx hy
  have p3 := product_ok S x z hx hz
  have p4 := product_ok S y x hy hx
  have p5 := product_ok S (M x y) z (M_lt _ _) hz
  have p6 := product_ok S y z hy hz
  have p7 := product_ok S x (M y z) hx (M_lt _ _)
  have p8 := product_ok S x 1 hx (by decide)
  have p9 := product_ok S 0 x (by decide) hx
  have p10 := product_ok S x x hx hx
  have q1 := square_ok S x hx
  have q2 := square_ok S y hy
  have q3 := square_ok S z hz
  have q4 := square_ok S (y ^^^ z) hb
  rw [M_comm y x] at p4
  rw [M_assoc] at p5
  rw [M_comm x 1, M_one x hx] at p8
  rw [M_zero] at p9
  have r1 := repr_n (S := S) (k := y ^^^ z) (by omega)
  have r2 := repr_n (S := S) (k := M x (y ^^^ z)) (by have := M_lt x (y ^^^ z); omega)
  have r3 := repr_n (S := S) (k := x) (by omega)
  have r4 := repr_n (S := S) (k := 0) (by omega)
  have r5 := repr_n (S := S) (k := M x x) (by have := M_lt x x; omega)
  have hs0 : (PyData.int ((0 : Nat) : Int)).shown = ("0" : Str) := by decide +kernel
  rw [hs0] at r4
  have hnz := M_nz x y hx hy
  generalize y ^^^ z = b at *
  generalize hmm : M x y = mxy at *
  generalize M x z = mxz at *
  generalize M y z = myz at *
  generalize M x b = mxb at *
  generalize M x myz = mm at *
  generalize M x x = mxx at *
  generalize M y y = myy at *
  generalize M z z = mzz at *
  generalize M b b = mbb at *
  simp only [nn, List.map_cons, List.map_nil] at s0 l0 l1 l2
  have zz0 : s_law_are_three_right_0 [some (.d (.int x)), some (.d (.int y)), some (.d (.int z)), none] S = some (.nx [some (.d (.int x)), some (.d (.int y)), some (.d (.int z)), some (.d (.int b))] S) := by
    simp [s_law_are_three_right_0, permL, fits, s0]
  have zz1 : s_law_are_three_right_1 [some (.d (.int x)), some (.d (.int y)), some (.d (.int z)), some (.d (.int b))] S = some (.nx [some (.d (.int x)), some (.d (.int y)), some (.d (.int z)), some (.d (.int b))] S) := by
    simp [s_law_are_three_right_1, fits, l0, r1, ne_str_same, p1, p2, p3, l1, r2]
  have zz2 : s_law_are_three_right_2 [some (.d (.int x)), some (.d (.int y)), some (.d (.int z)), some (.d (.int b))] S = some (.nx [some (.d (.int x)), some (.d (.int y)), some (.d (.int z)), some (.d (.int b))] S) := by
    simp [s_law_are_three_right_2, p2, p4, p5, p6, p7]
  have zz3 : s_law_are_three_right_3 [some (.d (.int x)), some (.d (.int y)), some (.d (.int z)), some (.d (.int b))] S = some (.nx [some (.d (.int x)), some (.d (.int y)), some (.d (.int z)), some (.d (.int b))] S) := by
    have p8' : F_product [.d (.int x), .d (.int 1)] S = some (.d (.int x), S) := p8
    have p9' : F_product [.d (.int 0), .d (.int x)] S = some (.d (.int 0), S) := p9
    have r4' : vRepr S (.d (.int 0)) = some (.d (.str "0")) := r4
    simp [s_law_are_three_right_3, permL, p8', p9', r3, r4', ne_str_same, q1, p10, r5]
  have zz4 : s_law_are_three_right_4 [some (.d (.int x)), some (.d (.int y)), some (.d (.int z)), some (.d (.int b))] S = some (.nx [some (.d (.int x)), some (.d (.int y)), some (.d (.int z)), some (.d (.int b))] S) := by
    simp [s_law_are_three_right_4, fits, q2, q3, q4, l2]
  have zz5 : s_law_are_three_right_5 [some (.d (.int x)), some (.d (.int y)), some (.d (.int z)), some (.d (.int b))] S = some (.rt (.d (.bool true)) S) := by
    by_cases h0 : x = 0
    · have : mxy = 0 := hnz.mpr (.inl h0)
      simp [s_law_are_three_right_5, p2, eq_true h0, eq_true this, DL.eq_bool]
    · by_cases h1 : y = 0
      · have : mxy = 0 := hnz.mpr (.inr h1)
        simp [s_law_are_three_right_5, p2, h0, eq_true h1, eq_true this, DL.eq_bool]
      · have : ¬ mxy = 0 := fun e => (hnz.mp e).elim h0 h1
        simp [s_law_are_three_right_5, p2, h0, h1, this, DL.eq_bool]
  have hst : ([W.d (.int x), W.d (.int y), W.d (.int z)].map some ++ List.replicate (4 - [W.d (.int x), W.d (.int y), W.d (.int z)].length) none : DL.Env) = [some (.d (.int x)), some (.d (.int y)), some (.d (.int z)), none] := rfl
  unfold F_law_are_three_right fnD
  rw [hst]
  simp only [b_law_are_three_right, mSeq, zz0, zz1, zz2, zz3, zz4, zz5, Option.bind_some, trim_d, List.take_length]
end K37

set_option Elab.async false
set_option linter.all false
set_option maxRecDepth 100000
set_option autoImplicit false
noncomputable section
/-! law k37: a round, and the law. -/
namespace K37
open PySem PySem.Spec PyProof.Rows L2 DL
theorem M_part : (∀ a, a < 2 → M 2 a = 2 * a) ∧ (∀ a, a < 4 → M 4 a = 4 * a) ∧ (∀ a, a < 16 → M 16 a = 16 * a) := by decide +kernel
theorem M_sq : M 2 2 = 3 ∧ M 4 4 = 6 ∧ M 16 16 = 24 := by decide +kernel
theorem M_low : (∀ a, a < 2 → ∀ b, b < 2 → M a b < 2) ∧ (∀ a, a < 4 → ∀ b, b < 4 → M a b < 4) ∧ (∀ a, a < 16 → ∀ b, b < 16 → M a b < 16) := by decide +kernel
theorem part_facts (p a b : Nat) (hp : p = 2 ∨ p = 4 ∨ p = 16) (ha : a < p) (hb : b < p) : M p a = p * a ∧ M p p = p + p / 2 ∧ M a b < p ∧ a ^^^ b < p := by
  rcases hp with rfl | rfl | rfl
  · exact ⟨M_part.1 a ha, M_sq.1, M_low.1 a ha b hb, Nat.xor_lt_two_pow (n := 1) ha hb⟩
  · exact ⟨M_part.2.1 a ha, M_sq.2.1, M_low.2.1 a ha b hb, Nat.xor_lt_two_pow (n := 2) ha hb⟩
  · exact ⟨M_part.2.2 a ha, M_sq.2.2, M_low.2.2 a ha b hb, Nat.xor_lt_two_pow (n := 4) ha hb⟩
theorem l6_ok (S : Sto) (p x y : Nat) (hp : p = 2 ∨ p = 4 ∨ p = 16) (hx : x < 256) (hy : y < 256) (x0 x1 x5 x6 x7 x8 x9 x10 x11 x12 : Option W) :
    ∃ y6 y7, l_law_right_6 [x0, x1, some (.d (.int p)), some (.d (.int x)), some (.d (.int y)), x5, x6, x7, x8, x9, x10, x11, x12] S = some (.nx [x0, x1, some (.d (.int p)), some (.d (.int x)), some (.d (.int y)), x5, y6, y7, x8, x9, x10, x11, x12] S) := by
  obtain ⟨a, ha⟩ : ∃ a, a = x % p := ⟨_, rfl⟩
  obtain ⟨b, hb⟩ : ∃ b, b = y % p := ⟨_, rfl⟩
  have p0 : 0 < p := by omega
  have ha' : a < p := by rw [ha]; exact Nat.mod_lt _ p0
  have hb' : b < p := by rw [hb]; exact Nat.mod_lt _ p0
  obtain ⟨f1, f2, f3, f4⟩ := part_facts p a b hp ha' hb'
  have p256 : p < 256 := by omega
  have e1 : (x : Int) % (p : Int) = (a : Int) := by rw [ha]; simp
  have e2 : (y : Int) % (p : Int) = (b : Int) := by rw [hb]; simp
  have pr := product_ok S p a p256 (by omega)
  have sq := square_ok S p p256
  have pl := product_ok S a b (by omega) (by omega)
  have so := sum_of_ok [a, b] (by simp) (fun n hn => by simp at hn; omega) S
  rw [X2] at so
  rw [f1] at pr
  rw [f2] at sq
  have hpa : p * a < 1024 := by
    have : p * a ≤ 16 * 15 := Nat.mul_le_mul (by omega) (by omega)
    omega
  have r1 := repr_n (S := S) hpa
  have r2 := repr_n (S := S) (k := p + p / 2) (by omega)
  have m1 : mulOk (p : Int) (a : Int) = true := mulOk_l (by omega) (by omega)
  have d2 : divOk 2 = true := divOk_of (by decide) (by decide)
  have hp0 : (0 : Int) < (p : Int) := by omega
  have n1 : (p : Int) * (a : Int) = ((p * a : Nat) : Int) := by simp
  have n2 : (p : Int) + (p : Int) / 2 = ((p + p / 2 : Nat) : Int) := by omega
  generalize p * a = pa at *
  generalize p + p / 2 = pp at *
  generalize M a b = mab at *
  generalize a ^^^ b = xab at *
  have g1 : ¬ (p : Int) ≤ (mab : Int) := by omega
  have g2 : ¬ (p : Int) ≤ (xab : Int) := by omega
  simp only [nn, List.map_cons, List.map_nil] at so
  have z3 : s_law_right_3 [x0, x1, some (.d (.int p)), some (.d (.int x)), some (.d (.int y)), x5, x6, x7, x8, x9, x10, x11, x12] S = some (.nx [x0, x1, some (.d (.int p)), some (.d (.int x)), some (.d (.int y)), x5, some (.d (.int a)), some (.d (.int b)), x8, x9, x10, x11, x12] S) := by
    simp [s_law_right_3, hp0, p0, e1, e2]
  have z4 : s_law_right_4 [x0, x1, some (.d (.int p)), some (.d (.int x)), some (.d (.int y)), x5, some (.d (.int a)), some (.d (.int b)), x8, x9, x10, x11, x12] S = some (.nx [x0, x1, some (.d (.int p)), some (.d (.int x)), some (.d (.int y)), x5, some (.d (.int a)), some (.d (.int b)), x8, x9, x10, x11, x12] S) := by
    simp [s_law_right_4, pr, r1, m1, n1, ne_str_same, sq, r2, d2, n2]
  have z5 : s_law_right_5 [x0, x1, some (.d (.int p)), some (.d (.int x)), some (.d (.int y)), x5, some (.d (.int a)), some (.d (.int b)), x8, x9, x10, x11, x12] S = some (.nx [x0, x1, some (.d (.int p)), some (.d (.int x)), some (.d (.int y)), x5, some (.d (.int a)), some (.d (.int b)), x8, x9, x10, x11, x12] S) := by
    simp [s_law_right_5, vGe, pl, g1, fits, so, g2]
  exact ⟨some (.d (.int a)), some (.d (.int b)), by simp only [l_law_right_6, mSeq, z3, z4, z5, Option.bind_some]⟩
theorem l8_ok (n : Nat) (S : Sto) (k : Int) (o : O) (hn : S[n]? = some o) (hP : Pot k o) (hk : k + 3 ≤ 1000000) (x1 x2 x3 x4 x5 x6 x7 x8 x9 x10 x11 x12 : Option W) :
    ∃ y2 y3 y4 y5 y6 y7 o', l_law_right_8 [some (.loc n), x1, x2, x3, x4, x5, x6, x7, x8, x9, x10, x11, x12] S = some (.nx [some (.loc n), x1, y2, y3, y4, y5, y6, y7, x8, x9, x10, x11, x12] (S.set n o')) ∧ Pot (k + 3) o' := by
  have hlt : n < S.length := (List.getElem?_eq_some_iff.mp hn).1
  have hset : ∀ o : O, (S.set n o)[n]? = some o := fun o => by simp [hlt]
  obtain ⟨d1, o1, t1, a1, a2, hP1⟩ := take_ok n S k 256 o hn hP (by omega) (by decide) (by decide)
  obtain ⟨d2, o2, t2, b1, b2, hP2⟩ := take_ok n (S.set n o1) (k + 1) 256 o1 (hset o1) hP1 (by omega) (by decide) (by decide)
  obtain ⟨d3, o3, t3, c1, c2, hP3⟩ := take_ok n (S.set n o2) (k + 1 + 1) 256 o2 (hset o2) hP2 (by omega) (by decide) (by decide)
  rw [List.set_set] at t2 t3
  obtain ⟨x, rfl⟩ : ∃ x : Nat, d1 = (x : Int) := ⟨d1.toNat, by omega⟩
  obtain ⟨y, rfl⟩ : ∃ x : Nat, d2 = (x : Int) := ⟨d2.toNat, by omega⟩
  obtain ⟨z, rfl⟩ : ∃ x : Nat, d3 = (x : Int) := ⟨d3.toNat, by omega⟩
  have th := three_ok (S.set n o3) x y z (by omega) (by omega) (by omega)
  have r1 : big62 3 = true := big62_of (by decide) (by decide)
  have hr : rangeD 0 3 = [.int 0, .int 1, .int 2] := rfl
  have z1 : s_law_right_1 [some (.loc n), x1, x2, x3, x4, x5, x6, x7, x8, x9, x10, x11, x12] S = some (.nx [some (.loc n), x1, x2, some (.d (.int x)), some (.d (.int y)), some (.d (.int z)), x6, x7, x8, x9, x10, x11, x12] (S.set n o3)) := by
    simp [s_law_right_1, gLstU, r1, hr, t1, t2, t3, fits]
  have z2 : s_law_right_2 [some (.loc n), x1, x2, some (.d (.int x)), some (.d (.int y)), some (.d (.int z)), x6, x7, x8, x9, x10, x11, x12] (S.set n o3) = some (.nx [some (.loc n), x1, x2, some (.d (.int x)), some (.d (.int y)), some (.d (.int z)), x6, x7, x8, x9, x10, x11, x12] (S.set n o3)) := by
    simp [s_law_right_2, th]
  obtain ⟨u6, u7, e1⟩ := l6_ok (S.set n o3) 2 x y (by decide) (by omega) (by omega) (some (.loc n)) x1 (some (.d (.int z))) x6 x7 x8 x9 x10 x11 x12
  obtain ⟨v6, v7, e2⟩ := l6_ok (S.set n o3) 4 x y (by decide) (by omega) (by omega) (some (.loc n)) x1 (some (.d (.int z))) u6 u7 x8 x9 x10 x11 x12
  obtain ⟨w6, w7, e3⟩ := l6_ok (S.set n o3) 16 x y (by decide) (by omega) (by omega) (some (.loc n)) x1 (some (.d (.int z))) v6 v7 x8 x9 x10 x11 x12
  simp only [show ((2 : Nat) : Int) = 2 from rfl, show ((4 : Nat) : Int) = 4 from rfl, show ((16 : Nat) : Int) = 16 from rfl] at e1 e2 e3
  have z7 : s_law_right_7 [some (.loc n), x1, x2, some (.d (.int x)), some (.d (.int y)), some (.d (.int z)), x6, x7, x8, x9, x10, x11, x12] (S.set n o3) = some (.nx [some (.loc n), x1, some (.d (.int 16)), some (.d (.int x)), some (.d (.int y)), some (.d (.int z)), w6, w7, x8, x9, x10, x11, x12] (S.set n o3)) := by
    simp [s_law_right_7, fits, e1, e2, e3]
  refine ⟨some (.d (.int 16)), some (.d (.int x)), some (.d (.int y)), some (.d (.int z)), w6, w7, o3, by simp only [l_law_right_8, mSeq, z1, z2, z7, Option.bind_some], ?_⟩
  rw [show k + 3 = k + 1 + 1 + 1 by omega]
  exact hP3
theorem nats_of : ∀ (xs : List D), (∀ x ∈ xs, ∃ k : Nat, k < 256 ∧ x = .int (k : Int)) → ∃ ns : List Nat, xs = nn ns ∧ ∀ k ∈ ns, k < 256
  | [], _ => ⟨[], rfl, fun k h => by cases h⟩
  | x :: xs, h => by
    obtain ⟨k, hk, rfl⟩ := h x (by simp)
    obtain ⟨ns, e, hn⟩ := nats_of xs fun y hy => h y (by simp [hy])
    refine ⟨k :: ns, by rw [e]; rfl, fun j hj => ?_⟩
    rcases List.mem_cons.mp hj with rfl | hj
    · exact hk
    · exact hn j hj
theorem foldl_xor : ∀ (xs : List Nat) (acc : Nat), xs.foldl (fun a b => a ^^^ b) acc = acc ^^^ X xs
  | [], acc => by simp [X]
  | x :: xs, acc => by
    unfold X
    simp only [List.foldl_cons]
    rw [foldl_xor xs (acc ^^^ x), foldl_xor xs (0 ^^^ x), Nat.zero_xor, Nat.xor_assoc]
theorem X_twice (xs : List Nat) : X (xs ++ xs) = 0 := by
  unfold X
  rw [List.foldl_append, foldl_xor]
  exact Nat.xor_self _
def clo : List Int := [1, 2, 4, 16, 256]
theorem closed_ok (S : Sto) (i : Int) : F_is_closed [.d (.int i)] S = some (.d (.bool (decide (i ∈ clo))), S) := by
  have h := hasD_int i clo
  have m := memOk_int i clo
  simp only [clo, List.map_cons, List.map_nil] at h m
  simp only [F_is_closed, fnD, b_is_closed]
  simp [vIn, vHas, asD, h, m, clo]
theorem clo_all : ((List.range 261).filter fun (i : Nat) => decide (-1 + (i : Int) ∈ clo)).map (fun (i : Nat) => -1 + (i : Int)) = clo := by decide +kernel
@[simp] theorem isi_none (S : Sto) : vIsi S (.d .none) (.v (.ty "int")) = some (.d (.bool false)) := rfl
@[simp] theorem isi_true1 (S : Sto) : vIsi S (.d (.bool true)) (.v (.ty "int")) = some (.d (.bool true)) := rfl
@[simp] theorem isi_true2 (S : Sto) : vIsi S (.d (.bool true)) (.v (.ty "bool")) = some (.d (.bool true)) := rfl
@[simp] theorem isi_str1 (S : Sto) (x : Str) : vIsi S (.d (.str x)) (.v (.ty "int")) = some (.d (.bool false)) := rfl
@[simp] theorem isi_tup1 (S : Sto) (x : List D) : vIsi S (.d (.tuple x)) (.v (.ty "int")) = some (.d (.bool false)) := rfl
theorem right_ok : FnRight 100 F_law_right := fun n S k o hn hP hk => by
  have hlt : n < S.length := (List.getElem?_eq_some_iff.mp hn).1
  have r1 : big62 12 = true := big62_of (by decide) (by decide)
  have hsm := small_ok S
  obtain ⟨σ', S', f1, y1, y2, y3, y4, y5, y6, y7, o1, rfl, rfl, g1⟩ := forM_nx (g := gN 1) (b := l_law_right_8) (fun j σ T => ∃ (x1 x2 x3 x4 x5 x6 x7 : Option W) (o' : O), σ = [some (.loc n), x1, x2, x3, x4, x5, x6, x7, none, none, none, none, none] ∧ T = S.set n o' ∧ Pot (k + 3 * j) o')
    (rangeD 0 12) 0 [some (.loc n), none, none, none, none, none, none, none, none, none, none, none, none] S ⟨_, _, _, _, _, _, _, o, rfl, (set_same hn).symm, by simpa using hP⟩ (by
      rintro i d σ T hi ⟨x1, x2, x3, x4, x5, x6, x7, o1, rfl, rfl, g1⟩
      have hic : i < 12 := by
        have := (List.getElem?_eq_some_iff.mp hi).1
        simpa using this
      rw [Nat.zero_add] at g1
      obtain ⟨u2, u3, u4, u5, u6, u7, o2, e, hP2⟩ := l8_ok n (S.set n o1) (k + 3 * i) o1 (by simp [hlt]) g1 (by omega) (some (.d d)) x2 x3 x4 x5 x6 x7 none none none none none
      rw [List.set_set] at e
      refine ⟨_, _, _, rfl, e, _, _, _, _, _, _, _, o2, rfl, rfl, ?_⟩
      rw [show ((0 + i + 1 : Nat) : Int) = (i : Int) + 1 by omega, show k + 3 * ((i : Int) + 1) = k + 3 * (i : Int) + 3 by omega]
      exact hP2)
  simp only [Nat.zero_add, rangeD_length] at g1
  have hset : ∀ o : O, (S.set n o)[n]? = some o := fun o => by simp [hlt]
  obtain ⟨d1, o2, t1, a1, a2, hP2⟩ := take_ok n (S.set n o1) (k + 3 * (12 : Nat)) 41 o1 (hset o1) g1 (by omega) (by decide) (by decide)
  rw [List.set_set] at t1
  obtain ⟨h, rfl⟩ : ∃ h : Nat, d1 = (h : Int) := ⟨d1.toNat, by omega⟩
  obtain ⟨xs, S2, c1, ⟨o3, rfl, hP3⟩, c3, c4⟩ := compM_st (g := gN 1) (m := mCall (pure1 vInt) (mCons (mCallF 2 F_law_take (mCons (mVar 0) (mCons (mInt 256) (mNil)))) (mNil))) (fun j T => ∃ o', T = S.set n o' ∧ Pot (k + 37 + j) o') (fun x => ∃ k : Nat, k < 256 ∧ x = .int (k : Int)) (rangeD 0 h) 0
    [some (.loc n), none, y2, y3, y4, y5, y6, y7, none, none, none, none, none] (S.set n o2) [] ⟨o2, rfl, by simpa using hP2.mono (by omega)⟩ (by simp; omega) (by
      rintro i d T hi ⟨o', rfl, hP'⟩
      have hic : i < h := by
        have := (List.getElem?_eq_some_iff.mp hi).1
        simpa using this
      obtain ⟨e, o4, t, b1, b2, hP4⟩ := take_ok n (S.set n o') _ 256 o' (hset o') hP' (by omega) (by decide) (by decide)
      rw [List.set_set] at t
      obtain ⟨q, rfl⟩ : ∃ q : Nat, e = (q : Int) := ⟨e.toNat, by omega⟩
      refine ⟨_, .int (q : Int), S.set n o4, rfl, by simp [t], ⟨q, by omega, rfl⟩, o4, rfl, ?_⟩
      rw [show k + 37 + ((0 + i + 1 : Nat) : Int) = k + 37 + ((0 + i : Nat) : Int) + 1 by omega]
      exact hP4)
  obtain ⟨ns, rfl, hns⟩ := nats_of xs c4
  rw [List.nil_append] at c1
  have hlen : ns.length ≤ 40 := by
    simp at c3
    omega
  have su := sum_of_ok ns hlen hns (S.set n o3)
  have ls := law_sum_ok ns (by omega) (fun x hx => by have := hns x hx; omega) (S.set n o3)
  have rp := repr_n (S := S.set n o3) (k := X ns) (by have := X_lt 8 ns 0 (by decide) hns; unfold X; omega)
  have su2 := sum_of_ok (ns.take 20 ++ ns.take 20) (by simp; omega) (fun x hx => by
    rcases List.mem_append.mp hx with hx | hx <;> exact hns x (List.mem_of_mem_take hx)) (S.set n o3)
  rw [X_twice] at su2
  have hcut : DL.cutD (nn ns) none (some 20) = nn (ns.take 20) := by
    have : HT.sIx (nn ns).length (nn ns).length (some 20) = min 20 (nn ns).length := HT.sIx_nat _ _ 20
    unfold DL.cutD
    rw [this, HT.sIx_none]
    simp only [Nat.sub_zero, List.drop_zero, nn, List.map_take]
    exact (List.take_eq_take_min ..).symm
  have hcat : nn (ns.take 20) ++ nn (ns.take 20) = nn (ns.take 20 ++ ns.take 20) := by simp [nn]
  have hff : fits ((nn (ns.take 20)).length + (nn (ns.take 20)).length) = true := decide_eq_true (by simp [nn]; omega)
  have rb1 : big62 (h : Int) = true := big62_of (by omega) (by omega)
  have rb2 : big62 (-1) = true := big62_of (by decide) (by decide)
  have rb3 : big62 260 = true := big62_of (by decide) (by decide)
  have cc := compM_filterE (g := gN 10) (t := mB (mBin vIsB (mCallK [0] 1 F_is_closed (mCons (mVar 10) (mNil))) (mBool true))) (m := mVar 10) (σ := [some (.loc n), y1, y2, y3, y4, y5, y6, y7, some (.d (.tuple (nn ns))), none, none, none, none]) (S := S.set n o3) (fun (i : Nat) => PyData.int (-1 + (i : Int))) (fun (i : Nat) => PyData.int (-1 + (i : Int))) (fun i => decide (-1 + (i : Int) ∈ clo)) (List.range 261) [] (by simp) fun i _ => ⟨_, rfl, by
    have := closed_ok (S.set n o3) (-1 + (i : Int))
    simp [permL, this, vIsB], fun _ => by simp⟩
  rw [← rangeD_eq 261 (-1)] at cc
  have hclo : (((List.range 261).filter fun (i : Nat) => decide (-1 + (i : Int) ∈ clo)).map fun (i : Nat) => PyData.int (-1 + (i : Int))) = clo.map PyData.int := by
    conv => rhs; rw [← clo_all]
    rw [List.map_map]
    rfl
  rw [hclo, List.nil_append] at cc
  refine ⟨o3, ?_, hP3.mono (by simp; omega)⟩
  have z0 : s_law_right_0 [some (.loc n), none, none, none, none, none, none, none, none, none, none, none, none] S = some (.nx [some (.loc n), none, none, none, none, none, none, none, none, none, none, none, none] S) := by
    simp [s_law_right_0, hsm]
  have z9 : s_law_right_9 [some (.loc n), none, none, none, none, none, none, none, none, none, none, none, none] S = some (.nx [some (.loc n), y1, y2, y3, y4, y5, y6, y7, none, none, none, none, none] (S.set n o1)) := by
    simp [s_law_right_9, r1, f1]
  have z10 : s_law_right_10 [some (.loc n), y1, y2, y3, y4, y5, y6, y7, none, none, none, none, none] (S.set n o1) = some (.nx [some (.loc n), y1, y2, y3, y4, y5, y6, y7, some (.d (.tuple (nn ns))), none, none, none, none] (S.set n o3)) := by
    simp only [nn] at c1 ⊢
    simp [s_law_right_10, t1, rb1, c1, vTuple]
  have z11 : s_law_right_11 [some (.loc n), y1, y2, y3, y4, y5, y6, y7, some (.d (.tuple (nn ns))), none, none, none, none] (S.set n o3) = some (.nx [some (.loc n), y1, y2, y3, y4, y5, y6, y7, some (.d (.tuple (nn ns))), none, none, none, none] (S.set n o3)) := by
    have hadd : vAdd (S.set n o3) (.d (.tuple (nn (ns.take 20)))) (.d (.tuple (nn (ns.take 20)))) = some (.d (.tuple (nn (ns.take 20 ++ ns.take 20)))) := by
      simp only [vAdd, hff, if_true, hcat]
    have hcut' : vCut (S.set n o3) (.d (.tuple (nn ns))) none (some 20) = some (.d (.tuple (nn (ns.take 20)))) := by simp only [vCut, hcut]
    have su2' : F_sum_of [.d (.tuple (nn (ns.take 20 ++ ns.take 20)))] (S.set n o3) = some (.d (.int 0), S.set n o3) := su2
    generalize nn (ns.take 20 ++ ns.take 20) = q1 at *
    generalize nn (ns.take 20) = q2 at *
    generalize nn ns = q3 at *
    simp [s_law_right_11, permL, su, ls, rp, ne_str_same, hcut', hadd, su2']
  have z12 : s_law_right_12 [some (.loc n), y1, y2, y3, y4, y5, y6, y7, some (.d (.tuple (nn ns))), none, none, none, none] (S.set n o3) = some (.nx [some (.loc n), y1, y2, y3, y4, y5, y6, y7, some (.d (.tuple (nn ns))), some (.d (.list (clo.map PyData.int))), none, none, none] (S.set n o3)) := by
    simp only [nn] at cc ⊢
    simp [s_law_right_12, rb2, rb3, cc]
  have z13 : s_law_right_13 [some (.loc n), y1, y2, y3, y4, y5, y6, y7, some (.d (.tuple (nn ns))), some (.d (.list (clo.map PyData.int))), none, none, none] (S.set n o3) = some (.rt (.d (.bool true)) (S.set n o3)) := by
    have he := eq_list_nums (S.set n o3) clo clo
    have hcl : clo.map PyData.int = [.int 1, .int 2, .int 4, .int 16, .int 256] := rfl
    rw [hcl] at he ⊢
    have i1 : F_is_closed [.d .none] (S.set n o3) = some (.d (.bool false), S.set n o3) := by simp [F_is_closed, fnD, b_is_closed, F_is_integer, b_is_integer]
    have i2 : F_is_closed [.d (.bool true)] (S.set n o3) = some (.d (.bool false), S.set n o3) := by simp [F_is_closed, fnD, b_is_closed, F_is_integer, b_is_integer]
    have i3 : F_is_closed [.d (.str "2")] (S.set n o3) = some (.d (.bool false), S.set n o3) := by simp [F_is_closed, fnD, b_is_closed, F_is_integer, b_is_integer]
    have i4 : F_is_closed [.d (.tuple [.int 2])] (S.set n o3) = some (.d (.bool false), S.set n o3) := by simp [F_is_closed, fnD, b_is_closed, F_is_integer, b_is_integer]
    simp [s_law_right_13, fits, he, i1, i2, i3, i4, vAny]
  have hst : ([W.loc n].map some ++ List.replicate (13 - [W.loc n].length) none : DL.Env) = [some (.loc n), none, none, none, none, none, none, none, none, none, none, none, none] := rfl
  unfold F_law_right fnD
  rw [hst]
  simp only [b_law_right, mSeq, z0, z9, z10, z11, z12, z13, Option.bind_some, trim_d, take_set_len]
end K37
open PySem PySem.W
theorem k37_done : PySem.Challenge.rw_whoeverbegins_k37_whole_products_of_heap.Holds :=
  K37.holds fun ns _ => K37.law_of K37.right_ok (by decide) (by decide) ns

theorem PySem.Challenge.cw_whoeverbegins_k37_whole_products_of_heap_holds : PySem.Challenge.rw_whoeverbegins_k37_whole_products_of_heap.Holds := by
  exact k37_done
