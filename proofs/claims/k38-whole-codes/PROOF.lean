import PyProof.Rows.All
import Wide.All
import OpenK.AllK
import Wide.FinOn
import HandS.ForMost
import HandS.Exc
import HandS.HeadHook1
import HandS.CallSlots
import HandS.Defaults
import HandS.TupAny
import HandS.IsInst
import HandS.Deep
import HandS.Wide
import KE.SortData
import HandS.DictComp
import HandS.Star
import HandS.Style
import HandS.Conv
import HandS.Text
import PyProof.P3In
import HandS.More
import HandS.WordsDict
import HandS.TupLen
import HandS.Sort
import HandS.Zip
import HandS.Iter
import PyProof.EnumMake
import PyProof.WalksEnum
import PyProof.Draws
import KE.GoesEnum
import KE.GoesNew
import HandS.TupMul
import HandS.WordsExc
import HandS.HeadHook2
import HandS.ExcInit
import HandS.ExcField
import HandS.TryMany
import HandS.HeadHook3
import HandS.HeadWalk
import HandS.EndTab
import HandS.Head0
import HandS.Head1
import HandS.Head2
import HandS.HeadEnd
import PySem.Challenge.RW_classhouse_k38_whole_codes_with_names_ag
set_option Elab.async false
set_option linter.all false
set_option maxRecDepth 100000
/-! the data layer: plain data for Python values, and what stands for them in the heap -/
namespace DL
open PySem PySem.Spec PyProof.Rows L2

inductive D where
  | non | bl (b : Bool) | int (i : Int) | str (x : Str)
  | tup (ds : List D) | ctp (ds : List D) | lst (ds : List D) | dct (kvs : List (D × D)) | dtt (kvs : List (D × D))
  | ins (c : Str) (fs : List (Str × D)) | obj (n : Nat) | cls (c : Str)

inductive SO where
  | lst (ds : List D) | dct (kvs : List (D × D)) | dtt (kvs : List (D × D)) | ins (c : Str) (fs : List (Str × D))

abbrev DEnv := List (Option D)
abbrev Sto := List SO

inductive Res where
  | ok (d : D) (S : Sto) | exn (x : D) (S : Sto) | stuck

inductive SRes where
  | nx (ρ : DEnv) (S : Sto) | rt (d : D) (S : Sto) | bk (ρ : DEnv) (S : Sto) | ct (ρ : DEnv) (S : Sto) | exn (x : D) (ρ : DEnv) (S : Sto) | stuck

abbrev EF := DEnv → Sto → Res
abbrev SF := DEnv → Sto → SRes
abbrev FF := List D → Sto → Res

def Res.bind (r : Res) (f : D → Sto → Res) : Res := match r with
  | .ok d S => f d S
  | .exn x S => .exn x S
  | .stuck => .stuck
@[simp] theorem Res.bind_ok (d : D) (S : Sto) (f : D → Sto → Res) : (Res.ok d S).bind f = f d S := rfl
@[simp] theorem Res.bind_exn (d : D) (S : Sto) (f : D → Sto → Res) : (Res.exn d S).bind f = .exn d S := rfl
@[simp] theorem Res.bind_stuck (f : D → Sto → Res) : Res.stuck.bind f = .stuck := rfl
def Res.ofOpt (o : Option D) (S : Sto) : Res := match o with
  | some d => .ok d S
  | none => .stuck
@[simp] theorem Res.ofOpt_some (d : D) (S : Sto) : Res.ofOpt (some d) S = .ok d S := rfl
@[simp] theorem Res.ofOpt_none (S : Sto) : Res.ofOpt none S = .stuck := rfl

/-- where things stand: what is frozen, the store's addresses -/
structure Wit where
  F : Hp
  phi : Nat → Addr
  m : Nat

def kD : Key → D
  | .inl i => .int i
  | .inr x => .str x

mutual
inductive Rep (K : PySem.W.Frag) (w : Wit) : D → V → Prop
  | non : Rep K w .non .non
  | bl (b : Bool) : Rep K w (.bl b) (.bl b)
  | int (i : Int) : Rep K w (.int i) (.int i)
  | str (x : Str) : Rep K w (.str x) (.str x)
  | tup {a : Addr} {vs : List V} {ds : List D} (h : w.F a = some (.tup vs)) (r : Reps K w ds vs) : Rep K w (.tup ds) (.ref a)
  | ctp {a : Addr} {vs : List V} {ds : List D} (h : SqT K (fun _ => none) a vs) (r : Reps K w ds vs) : Rep K w (.ctp ds) (.ref a)
  | lst {a : Addr} {vs : List V} {ds : List D} (h : SqL K w.F a vs) (r : Reps K w ds vs) : Rep K w (.lst ds) (.ref a)
  | dK {a : Addr} {vs : List (Key × V)} {ds : List (D × D)} (h : w.F a = some (.dK vs)) (r : RepK K w ds vs) : Rep K w (.dct ds) (.ref a)
  | dT {a : Addr} {vs : List (List Key × V)} {ds : List (D × D)} (h : w.F a = some (.dT vs)) (r : RepT K w ds vs) : Rep K w (.dtt ds) (.ref a)
  | ins {a dx : Addr} {c : Str} {fs : List (Str × D)} {vs : List (Str × V)} (h : w.F a = some (.ins (He.ga K c) dx vs)) (r : RepF K w fs vs) : Rep K w (.ins c fs) (.ref a)
  | obj {n : Nat} (h : n < w.m) : Rep K w (.obj n) (.ref (w.phi n))
  | cls (c : Str) : Rep K w (.cls c) (.ref (He.ga K c))
inductive Reps (K : PySem.W.Frag) (w : Wit) : List D → List V → Prop
  | nil : Reps K w [] []
  | cons {d : D} {v : V} {ds : List D} {vs : List V} (h : Rep K w d v) (t : Reps K w ds vs) : Reps K w (d :: ds) (v :: vs)
inductive RepK (K : PySem.W.Frag) (w : Wit) : List (D × D) → List (Key × V) → Prop
  | nil : RepK K w [] []
  | cons {k : Key} {d : D} {v : V} {ds : List (D × D)} {vs : List (Key × V)} (h : Rep K w d v) (t : RepK K w ds vs) : RepK K w ((kD k, d) :: ds) ((k, v) :: vs)
inductive RepT (K : PySem.W.Frag) (w : Wit) : List (D × D) → List (List Key × V) → Prop
  | nil : RepT K w [] []
  | cons {k : List Key} {d : D} {v : V} {ds : List (D × D)} {vs : List (List Key × V)} (h : Rep K w d v) (t : RepT K w ds vs) : RepT K w ((.tup (k.map kD), d) :: ds) ((k, v) :: vs)
inductive RepF (K : PySem.W.Frag) (w : Wit) : List (Str × D) → List (Str × V) → Prop
  | nil : RepF K w [] []
  | cons {k : Str} {d : D} {v : V} {ds : List (Str × D)} {vs : List (Str × V)} (h : Rep K w d v) (t : RepF K w ds vs) : RepF K w ((k, d) :: ds) ((k, v) :: vs)
end

/-- w' knows all that w knows -/
structure Le (w w' : Wit) : Prop where
  F : ∀ a o, w.F a = some o → w'.F a = some o
  phi : ∀ n, n < w.m → w'.phi n = w.phi n
  le : w.m ≤ w'.m
theorem Le.refl (w : Wit) : Le w w := ⟨fun _ _ h => h, fun _ _ => rfl, Nat.le_refl _⟩
theorem Le.trans {a b c : Wit} (h : Le a b) (k : Le b c) : Le a c :=
  ⟨fun x o e => k.F x o (h.F x o e), fun n e => (k.phi n (Nat.lt_of_lt_of_le e h.le)).trans (h.phi n e), Nat.le_trans h.le k.le⟩

theorem Rd.monoF {F F' : Hp} {a : Addr} {u : HO} (h : ∀ a o, F a = some o → F' a = some o) (r : Rd F a u) : Rd F' a u := by
  rcases r with r | ⟨o, r⟩
  · exact .inl (h _ _ r)
  · exact .inr ⟨o, h _ _ r⟩
theorem none_le {F : Hp} : ∀ a o, (fun _ : Addr => (none : Option HO)) a = some o → F a = some o := by
  intro a o h
  cases (show (none : Option HO) = some o from h)
theorem SqL.monoF {K : PySem.W.Frag} {F F' : Hp} {a : Addr} {vs : List V} (h : ∀ a o, F a = some o → F' a = some o) (r : SqL K F a vs) : SqL K F' a vs := by
  rcases r with r | r
  · exact .inl (Rd.monoF h r)
  · exact .inr r
theorem SqT.monoF {K : PySem.W.Frag} {F F' : Hp} {a : Addr} {vs : List V} (h : ∀ a o, F a = some o → F' a = some o) (r : SqT K F a vs) : SqT K F' a vs := by
  rcases r with r | r
  · exact .inl (Rd.monoF h r)
  · exact .inr r

section
variable {K : PySem.W.Frag} {w w' : Wit}
mutual
theorem Rep.mono (l : Le w w') : ∀ {d : D} {v : V}, Rep K w d v → Rep K w' d v
  | _, _, .non => .non
  | _, _, .bl b => .bl b
  | _, _, .int b => .int b
  | _, _, .str b => .str b
  | _, _, .tup h r => .tup (l.F _ _ h) (Reps.mono l r)
  | _, _, .ctp h r => .ctp h (Reps.mono l r)
  | _, _, .lst h r => .lst (SqL.monoF l.F h) (Reps.mono l r)
  | _, _, .dK h r => .dK (l.F _ _ h) (RepK.mono l r)
  | _, _, .dT h r => .dT (l.F _ _ h) (RepT.mono l r)
  | _, _, .ins h r => .ins (l.F _ _ h) (RepF.mono l r)
  | _, _, .obj h => l.phi _ h ▸ Rep.obj (Nat.lt_of_lt_of_le h l.le)
  | _, _, .cls c => .cls c
theorem Reps.mono (l : Le w w') : ∀ {ds : List D} {vs : List V}, Reps K w ds vs → Reps K w' ds vs
  | _, _, .nil => .nil
  | _, _, .cons h t => .cons (Rep.mono l h) (Reps.mono l t)
theorem RepK.mono (l : Le w w') : ∀ {ds : List (D × D)} {vs : List (Key × V)}, RepK K w ds vs → RepK K w' ds vs
  | _, _, .nil => .nil
  | _, _, .cons h t => .cons (Rep.mono l h) (RepK.mono l t)
theorem RepT.mono (l : Le w w') : ∀ {ds : List (D × D)} {vs : List (List Key × V)}, RepT K w ds vs → RepT K w' ds vs
  | _, _, .nil => .nil
  | _, _, .cons h t => .cons (Rep.mono l h) (RepT.mono l t)
theorem RepF.mono (l : Le w w') : ∀ {ds : List (Str × D)} {vs : List (Str × V)}, RepF K w ds vs → RepF K w' ds vs
  | _, _, .nil => .nil
  | _, _, .cons h t => .cons (Rep.mono l h) (RepF.mono l t)
end
theorem Reps.length {ds : List D} {vs : List V} (h : Reps K w ds vs) : ds.length = vs.length := by
  induction ds generalizing vs with
  | nil => cases h; rfl
  | cons d ds ih => cases h with | cons h t => simp [ih t]
theorem Reps.get {ds : List D} {vs : List V} (h : Reps K w ds vs) {i : Nat} {d : D} (e : ds[i]? = some d) : ∃ v, vs[i]? = some v ∧ Rep K w d v := by
  induction ds generalizing vs i with
  | nil => simp at e
  | cons x ds ih => cases h with
    | cons h t =>
      cases i with
      | zero => simp at e; subst e; exact ⟨_, rfl, h⟩
      | succ i => simpa using ih t (by simpa using e)
theorem Reps.getV {ds : List D} {vs : List V} (h : Reps K w ds vs) {i : Nat} {v : V} (e : vs[i]? = some v) : ∃ d, ds[i]? = some d ∧ Rep K w d v := by
  induction ds generalizing vs i with
  | nil => cases h; simp at e
  | cons x ds ih => cases h with
    | cons h t =>
      cases i with
      | zero => simp at e; subst e; exact ⟨_, rfl, h⟩
      | succ i => simpa using ih t (by simpa using e)
theorem Reps.append {ds es : List D} {vs us : List V} (h : Reps K w ds vs) (k : Reps K w es us) : Reps K w (ds ++ es) (vs ++ us) := by
  induction ds generalizing vs with
  | nil => cases h; exact k
  | cons x ds ih => cases h with | cons h t => exact .cons h (ih t)
theorem Reps.take {ds : List D} {vs : List V} (h : Reps K w ds vs) (n : Nat) : Reps K w (ds.take n) (vs.take n) := by
  induction ds generalizing vs n with
  | nil => cases h; simpa using Reps.nil
  | cons x ds ih => cases h with
    | cons h t => cases n with
      | zero => exact .nil
      | succ n => exact .cons h (ih t n)
theorem Reps.drop {ds : List D} {vs : List V} (h : Reps K w ds vs) (n : Nat) : Reps K w (ds.drop n) (vs.drop n) := by
  induction ds generalizing vs n with
  | nil => cases h; simpa using Reps.nil
  | cons x ds ih => cases h with
    | cons h t => cases n with
      | zero => exact .cons h t
      | succ n => exact ih t n
theorem Reps.reverse {ds : List D} {vs : List V} (h : Reps K w ds vs) : Reps K w ds.reverse vs.reverse := by
  induction ds generalizing vs with
  | nil => cases h; exact .nil
  | cons x ds ih => cases h with | cons h t => simpa using (ih t).append (.cons h .nil)
theorem Reps.set {ds : List D} {vs : List V} (h : Reps K w ds vs) (i : Nat) {d : D} {v : V} (r : Rep K w d v) : Reps K w (ds.set i d) (vs.set i v) := by
  induction ds generalizing vs i with
  | nil => cases h; exact .nil
  | cons x ds ih => cases h with
    | cons h t => cases i with
      | zero => exact .cons r t
      | succ n => exact .cons h (ih t n)
theorem Reps.eraseIdx {ds : List D} {vs : List V} (h : Reps K w ds vs) (i : Nat) : Reps K w (ds.eraseIdx i) (vs.eraseIdx i) := by
  induction ds generalizing vs i with
  | nil => cases h; exact .nil
  | cons x ds ih => cases h with
    | cons h t => cases i with
      | zero => exact t
      | succ n => exact .cons h (ih t n)
theorem Reps.dropLast {ds : List D} {vs : List V} (h : Reps K w ds vs) : Reps K w ds.dropLast vs.dropLast := by
  have := h.take (ds.length - 1)
  rw [List.dropLast_eq_take, List.dropLast_eq_take, ← h.length]
  exact this
end

/-- what stands in the store -/
def RepO (K : PySem.W.Frag) (w : Wit) (H : Hp) (a : Addr) : SO → Prop
  | .lst ds => ∃ vs, H a = some (.lst vs) ∧ Reps K w ds vs
  | .dct ds => ∃ vs, H a = some (.dK vs) ∧ RepK K w ds vs
  | .dtt ds => ∃ vs, H a = some (.dT vs) ∧ RepT K w ds vs
  | .ins c fs => ∃ dx vs, H a = some (.ins (He.ga K c) dx vs) ∧ RepF K w fs vs

theorem RepO.mono {K : PySem.W.Frag} {w w' : Wit} {H H' : Hp} {a : Addr} (l : Le w w') (h : ∀ o, H a = some o → H' a = some o) : ∀ {o : SO}, RepO K w H a o → RepO K w' H' a o
  | .lst _, ⟨vs, e, r⟩ => ⟨vs, h _ e, r.mono l⟩
  | .dct _, ⟨vs, e, r⟩ => ⟨vs, h _ e, r.mono l⟩
  | .dtt _, ⟨vs, e, r⟩ => ⟨vs, h _ e, r.mono l⟩
  | .ins _ _, ⟨dx, vs, e, r⟩ => ⟨dx, vs, h _ e, r.mono l⟩
theorem RepO.there {K : PySem.W.Frag} {w : Wit} {H : Hp} {a : Addr} : ∀ {o : SO}, RepO K w H a o → H a ≠ none
  | .lst _, ⟨vs, e, r⟩ => by rw [e]; simp
  | .dct _, ⟨vs, e, r⟩ => by rw [e]; simp
  | .dtt _, ⟨vs, e, r⟩ => by rw [e]; simp
  | .ins _ _, ⟨dx, vs, e, r⟩ => by rw [e]; simp

/-- the heap bears the store -/
structure Gd (K : PySem.W.Frag) (w : Wit) (H : Hp) (S : Sto) : Prop where
  len : w.m = S.length
  sub : ∀ a o, w.F a = some o → H a = some o
  sto : ∀ n o, S[n]? = some o → RepO K w H (w.phi n) o
  inj : ∀ i j, i < w.m → j < w.m → w.phi i = w.phi j → i = j
  nofz : ∀ i, i < w.m → w.F (w.phi i) = none

/-- from one state to a later one: nothing but the store's objects has changed -/
structure Ext (w : Wit) (H : Hp) (w' : Wit) (H' : Hp) : Prop where
  le : Le w w'
  new : ∀ n, w.m ≤ n → n < w'.m → H (w'.phi n) = none
  keep : ∀ a o, H a = some o → (∃ n, n < w.m ∧ w.phi n = a) ∨ H' a = some o
  there : ∀ a, H a ≠ none → H' a ≠ none
  fz : ∀ a, H a ≠ none → w.F a = none → w'.F a = none
theorem Ext.refl (w : Wit) (H : Hp) : Ext w H w H := ⟨.refl w, fun n h k => absurd k (Nat.not_lt.mpr h), fun _ _ h => .inr h, fun _ h => h, fun _ _ h => h⟩
theorem Ext.trans {w w1 w2 : Wit} {H H1 H2 : Hp} (a : Ext w H w1 H1) (b : Ext w1 H1 w2 H2) : Ext w H w2 H2 where
  le := a.le.trans b.le
  new := fun n h k => by
    by_cases c : n < w1.m
    · rw [b.le.phi n c]; exact a.new n h c
    · have := b.new n (Nat.not_lt.mp c) k
      cases e : H (w2.phi n) with
      | none => rfl
      | some o => exact absurd this (a.there _ (by rw [e]; simp))
  keep := fun x o e => by
    rcases a.keep x o e with h | h
    · exact .inl h
    · rcases b.keep x o h with ⟨n, hn, en⟩ | h
      · by_cases c : n < w.m
        · exact .inl ⟨n, c, (a.le.phi n c).symm.trans en⟩
        · have := a.new n (Nat.not_lt.mp c) hn
          rw [en, e] at this; cases this
      · exact .inr h
  there := fun x h => b.there x (a.there x h)
  fz := fun x h k => b.fz x (a.there x h) (a.fz x h k)

/-- a list or a dict that nobody else knows -/
def Own (K : PySem.W.Frag) (w : Wit) (H : Hp) (d : D) (a : Addr) : Prop :=
  w.F a = none ∧ (∀ n, n < w.m → w.phi n ≠ a) ∧ match d with
    | .lst ds => ∃ vs, H a = some (.lst vs) ∧ Reps K w ds vs
    | .dct ds => ∃ vs, H a = some (.dK vs) ∧ RepK K w ds vs
    | .dtt ds => ∃ vs, H a = some (.dT vs) ∧ RepT K w ds vs
    | _ => False
theorem Own.there {K : PySem.W.Frag} {w : Wit} {H : Hp} {d : D} {a : Addr} (h : Own K w H d a) : H a ≠ none := by
  obtain ⟨_, _, h⟩ := h
  cases d with
  | lst ds => obtain ⟨vs, e, _⟩ := h; rw [e]; simp
  | dct ds => obtain ⟨vs, e, _⟩ := h; rw [e]; simp
  | dtt ds => obtain ⟨vs, e, _⟩ := h; rw [e]; simp
  | _ => exact h.elim
theorem Own.ext {K : PySem.W.Frag} {w w' : Wit} {H H' : Hp} {d : D} {a : Addr} (h : Own K w H d a) (x : Ext w H w' H') : Own K w' H' d a := by
  have ht := h.there
  obtain ⟨h1, h2, h3⟩ := h
  have kp : ∀ o, H a = some o → H' a = some o := fun o e => by
    rcases x.keep a o e with ⟨n, hn, en⟩ | q
    · exact absurd en (h2 n hn)
    · exact q
  refine ⟨x.fz a ht h1, fun n hn e => ?_, ?_⟩
  · by_cases c : n < w.m
    · exact h2 n c ((x.le.phi n c).symm.trans e)
    · exact ht (e ▸ x.new n (Nat.not_lt.mp c) hn)
  · cases d with
    | lst ds => obtain ⟨vs, e, r⟩ := h3; exact ⟨vs, kp _ e, r.mono x.le⟩
    | dct ds => obtain ⟨vs, e, r⟩ := h3; exact ⟨vs, kp _ e, r.mono x.le⟩
    | dtt ds => obtain ⟨vs, e, r⟩ := h3; exact ⟨vs, kp _ e, r.mono x.le⟩
    | _ => exact h3.elim
/-- it becomes known to all, and fixed -/
def Wit.fix (w : Wit) (H : Hp) (a : Addr) : Wit := { w with F := fun b => if b = a then H a else w.F b }
theorem Le.fix {w : Wit} {H : Hp} {a : Addr} (h : w.F a = none) : Le w (w.fix H a) :=
  ⟨fun b o e => by unfold Wit.fix; simp only; split
                   · rename_i q; rw [q, h] at e; cases e
                   · exact e, fun _ _ => rfl, Nat.le_refl _⟩
theorem Own.rep {K : PySem.W.Frag} {w : Wit} {H : Hp} {d : D} {a : Addr} (h : Own K w H d a) : Rep K (w.fix H a) d (.ref a) := by
  obtain ⟨h1, h2, h3⟩ := h
  have l := Le.fix (H := H) h1
  have fa : (w.fix H a).F a = H a := by unfold Wit.fix; simp
  cases d with
  | lst ds => obtain ⟨vs, e, r⟩ := h3; exact .lst (.inl (.inl (fa.trans e))) (r.mono l)
  | dct ds => obtain ⟨vs, e, r⟩ := h3; exact .dK (fa.trans e) (r.mono l)
  | dtt ds => obtain ⟨vs, e, r⟩ := h3; exact .dT (fa.trans e) (r.mono l)
  | _ => exact h3.elim
theorem Gd.fix {K : PySem.W.Frag} {w : Wit} {H : Hp} {S : Sto} {a : Addr} (g : Gd K w H S) (h1 : w.F a = none) (h2 : ∀ n, n < w.m → w.phi n ≠ a) : Gd K (w.fix H a) H S where
  len := g.len
  sub := fun b o e => by
    unfold Wit.fix at e; simp only at e; split at e
    · rename_i q; rw [q]; exact e
    · exact g.sub b o e
  sto := fun n o e => (g.sto n o e).mono (Le.fix h1) fun _ z => z
  inj := g.inj
  nofz := fun i hi => by
    unfold Wit.fix; simp only
    rw [if_neg (h2 i hi)]
    exact g.nofz i hi
theorem Ext.fix {w w' : Wit} {H H' : Hp} {a : Addr} (x : Ext w H w' H') (h1 : w'.F a = none) (h2 : H a = none) : Ext w H (w'.fix H' a) H' where
  le := x.le.trans (Le.fix h1)
  new := x.new
  keep := x.keep
  there := x.there
  fz := fun b hb e => by
    unfold Wit.fix; simp only
    rw [if_neg (fun q : b = a => hb (by rw [q]; exact h2))]
    exact x.fz b hb e

/-! ### exceptions -/
def RepX (K : PySem.W.Frag) (w : Wit) (H : Hp) (x : D) (cls : Value) (dx : Option Addr) : Prop :=
  ∃ c fs, x = .ins c fs ∧ cls = .ref (He.ga K c) ∧ ((dx = none ∧ fs = []) ∨ ∃ d vs, dx = some d ∧ H d = some (.xd vs) ∧ RepF K w fs vs)
theorem RepX.mono {K : PySem.W.Frag} {w w' : Wit} {H : Hp} {x : D} {cls : Value} {dx : Option Addr} (l : Le w w') (h : RepX K w H x cls dx) : RepX K w' H x cls dx := by
  obtain ⟨c, fs, e1, e2, h⟩ := h
  refine ⟨c, fs, e1, e2, ?_⟩
  rcases h with h | ⟨d, vs, a, b, r⟩
  · exact .inl h
  · exact .inr ⟨d, vs, a, b, r.mono l⟩
theorem RepX.keeps {K : PySem.W.Frag} {w : Wit} {H H' : Hp} {x : D} {cls : Value} {dx : Option Addr} (h : RepX K w H x cls dx) (k : ∀ d vs, H d = some (.xd vs) → H' d = some (.xd vs)) : RepX K w H' x cls dx := by
  obtain ⟨c, fs, e1, e2, h⟩ := h
  refine ⟨c, fs, e1, e2, ?_⟩
  rcases h with h | ⟨d, vs, a, b, r⟩
  · exact .inl h
  · exact .inr ⟨d, vs, a, k _ _ b, r⟩
theorem RepO.noxd {K : PySem.W.Frag} {w : Wit} {H : Hp} {a : Addr} {fs : List (Str × V)} : ∀ {o : SO}, RepO K w H a o → H a ≠ some (.xd fs)
  | .lst _, ⟨vs, e, r⟩ => by rw [e]; intro z; cases z
  | .dct _, ⟨vs, e, r⟩ => by rw [e]; intro z; cases z
  | .dtt _, ⟨vs, e, r⟩ => by rw [e]; intro z; cases z
  | .ins _ _, ⟨dx, vs, e, r⟩ => by rw [e]; intro z; cases z
theorem Own.noxd {K : PySem.W.Frag} {w : Wit} {H : Hp} {d : D} {a : Addr} {fs : List (Str × V)} (h : Own K w H d a) : H a ≠ some (.xd fs) := by
  obtain ⟨_, _, h⟩ := h
  cases d with
  | lst ds => obtain ⟨vs, e, _⟩ := h; rw [e]; intro z; cases z
  | dct ds => obtain ⟨vs, e, _⟩ := h; rw [e]; intro z; cases z
  | dtt ds => obtain ⟨vs, e, _⟩ := h; rw [e]; intro z; cases z
  | _ => exact h.elim
theorem RepX.ext {K : PySem.W.Frag} {w w' : Wit} {H H' : Hp} {S : Sto} {x : D} {cls : Value} {dx : Option Addr} (h : RepX K w H x cls dx) (g : Gd K w H S) (y : Ext w H w' H') : RepX K w' H' x cls dx := by
  refine (h.keeps fun d vs e => ?_).mono y.le
  rcases y.keep d _ e with ⟨n, hn, en⟩ | q
  · obtain ⟨o, ho⟩ : ∃ o, S[n]? = some o := ⟨_, List.getElem?_eq_getElem (by rw [← g.len]; exact hn)⟩
    exact absurd (en ▸ e) (g.sto n o ho).noxd
  · exact q
/-- the exception that an except suite has caught: its name's slot, where it stands, what it is -/
structure XC where
  i : Nat
  a : Addr
  cls : Value
  dx : Option Addr
  x : D

/-! ### the state of a def's body -/
structure Ent (Z : Option XC) where
  w : Wit
  H : Hp
  k : Wit

structure R (K : PySem.W.Frag) {Z : Option XC} (ent : Ent Z) (O : List Nat) (w : Wit) (H : Hp) (σ : L2.St) (ρ : DEnv) (S : Sto) : Prop where
  gd : Gd K w H S
  ext : Ext ent.w ent.H w H
  kn : Le ent.k w
  val : ∀ i d, ρ[i]? = some (some d) → i ∉ O → ∃ v, σ[i]? = some (some v) ∧ Rep K w d v
  own : ∀ i d, ρ[i]? = some (some d) → i ∈ O → ∃ a, σ[i]? = some (some (.ref a)) ∧ Own K w H d a ∧ ent.H a = none
  dis : ∀ i j a, i ∈ O → j ∈ O → (∃ d, ρ[i]? = some (some d)) → (∃ d, ρ[j]? = some (some d)) → σ[i]? = some (some (.ref a)) → σ[j]? = some (some (.ref a)) → i = j
  len : ρ.length = σ.length
  exc : ∀ z, Z = some z → z.i ∈ O → ρ[z.i]? = some none → σ[z.i]? = some (some (.ref z.a)) ∧ RepX K w H z.x z.cls z.dx

section
variable {K : PySem.W.Frag} {Z : Option XC} {ent : Ent Z} {O : List Nat} {w w' : Wit} {H H' : Hp} {σ : L2.St} {ρ : DEnv} {S S' : Sto}
theorem R.later (r : R K ent O w H σ ρ S) (x : Ext w H w' H') (g : Gd K w' H' S') : R K ent O w' H' σ ρ S' where
  gd := g
  ext := r.ext.trans x
  kn := r.kn.trans x.le
  val := fun i d e n => let ⟨v, h1, h2⟩ := r.val i d e n; ⟨v, h1, h2.mono x.le⟩
  own := fun i d e n => let ⟨a, h1, h2, h3⟩ := r.own i d e n; ⟨a, h1, h2.ext x, h3⟩
  dis := r.dis
  len := r.len
  exc := fun z hz hi hn => let ⟨h1, h2⟩ := r.exc z hz hi hn; ⟨h1, h2.ext r.gd x⟩
/-- an own list becomes fixed -/
theorem R.drop1 (r : R K ent O w H σ ρ S) (i : Nat) (hi : i ∈ O) : ∃ w', Le w w' ∧ R K ent (O.filter (· ≠ i)) w' H σ ρ S := by
  cases e : ρ[i]? with
  | none =>
    refine ⟨w, .refl w, r.gd, r.ext, r.kn, fun j d h n => ?_, fun j d h n => r.own j d h (List.mem_filter.mp n).1, fun j k a hj hk => r.dis j k a (List.mem_filter.mp hj).1 (List.mem_filter.mp hk).1, r.len, fun z hz hi => r.exc z hz (List.mem_filter.mp hi).1⟩
    refine r.val j d h fun hm => n (List.mem_filter.mpr ⟨hm, ?_⟩)
    simp only [ne_eq, decide_not, Bool.not_eq_eq_eq_not, Bool.not_true, decide_eq_false_iff_not]
    intro q; rw [q, e] at h; cases h
  | some o =>
    cases o with
    | none =>
      refine ⟨w, .refl w, r.gd, r.ext, r.kn, fun j d h n => ?_, fun j d h n => r.own j d h (List.mem_filter.mp n).1, fun j k a hj hk => r.dis j k a (List.mem_filter.mp hj).1 (List.mem_filter.mp hk).1, r.len, fun z hz hi => r.exc z hz (List.mem_filter.mp hi).1⟩
      refine r.val j d h fun hm => n (List.mem_filter.mpr ⟨hm, ?_⟩)
      simp only [ne_eq, decide_not, Bool.not_eq_eq_eq_not, Bool.not_true, decide_eq_false_iff_not]
      intro q; rw [q, e] at h; cases h
    | some d0 =>
      obtain ⟨a, s1, s2, s3⟩ := r.own i d0 e hi
      have l := Le.fix (H := H) s2.1
      refine ⟨w.fix H a, l, r.gd.fix s2.1 s2.2.1, r.ext.fix s2.1 s3, r.kn.trans l, fun j d h n => ?_, fun j d h n => ?_, fun j k a hj hk => r.dis j k a (List.mem_filter.mp hj).1 (List.mem_filter.mp hk).1, r.len, fun z hz hi hn => let ⟨h1, h2⟩ := r.exc z hz (List.mem_filter.mp hi).1 hn; ⟨h1, h2.mono l⟩⟩
      · by_cases q : j = i
        · subst q
          rw [e] at h; cases h
          exact ⟨_, s1, s2.rep⟩
        · obtain ⟨v, h1, h2⟩ := r.val j d h fun hm => n (List.mem_filter.mpr ⟨hm, by simpa using q⟩)
          exact ⟨v, h1, h2.mono l⟩
      · obtain ⟨hm, q⟩ := List.mem_filter.mp n
        have q' : j ≠ i := by simpa using q
        obtain ⟨b, t1, t2, t3⟩ := r.own j d h hm
        have nab : b ≠ a := fun z => q' (r.dis j i b hm hi ⟨_, h⟩ ⟨_, e⟩ t1 (by rw [z]; exact s1))
        refine ⟨b, t1, ⟨?_, t2.2.1, ?_⟩, t3⟩
        · unfold Wit.fix; simp only; rw [if_neg nab]; exact t2.1
        · obtain ⟨_, _, t4⟩ := t2
          cases d with
          | lst ds => obtain ⟨vs, e, r⟩ := t4; exact ⟨vs, e, r.mono l⟩
          | dct ds => obtain ⟨vs, e, r⟩ := t4; exact ⟨vs, e, r.mono l⟩
          | dtt ds => obtain ⟨vs, e, r⟩ := t4; exact ⟨vs, e, r.mono l⟩
          | _ => exact t4.elim
theorem R.sub (r : R K ent O w H σ ρ S) {O' : List Nat} (h : ∀ i, i ∈ O ↔ i ∈ O') : R K ent O' w H σ ρ S :=
  ⟨r.gd, r.ext, r.kn, fun i d e n => r.val i d e (fun z => n ((h i).mp z)), fun i d e n => r.own i d e ((h i).mpr n), fun i j a hi hj => r.dis i j a ((h i).mpr hi) ((h j).mpr hj), r.len, fun z hz hi => r.exc z hz ((h _).mpr hi)⟩
/-- fewer own lists -/
theorem R.weak (r : R K ent O w H σ ρ S) (O' : List Nat) (h : ∀ i, i ∈ O' → i ∈ O) : ∃ w', Le w w' ∧ R K ent O' w' H σ ρ S := by
  have go : ∀ (L : List Nat) (O1 : List Nat) (w1 : Wit), R K ent O1 w1 H σ ρ S → (∀ i, i ∈ O' → i ∈ O1) → (∀ i, i ∈ O1 → i ∉ O' → i ∈ L) → ∃ w', Le w1 w' ∧ R K ent O' w' H σ ρ S := by
    intro L
    induction L with
    | nil =>
      intro O1 w1 r1 h1 h2
      refine ⟨w1, .refl _, r1.sub fun i => ⟨fun z => ?_, h1 i⟩⟩
      by_cases q : i ∈ O'
      · exact q
      · exact absurd (h2 i z q) (by simp)
    | cons a L ih =>
      intro O1 w1 r1 h1 h2
      by_cases q : a ∈ O1 ∧ a ∉ O'
      · obtain ⟨w2, l2, r2⟩ := r1.drop1 a q.1
        obtain ⟨w3, l3, r3⟩ := ih _ w2 r2 (fun i hi => List.mem_filter.mpr ⟨h1 i hi, by have z : i ≠ a := fun z => q.2 (z ▸ hi); simpa using z⟩) (fun i hi hn => by
          obtain ⟨u1, u2⟩ := List.mem_filter.mp hi
          rcases List.mem_cons.mp (h2 i u1 hn) with z | z
          · exact absurd z (by simpa using u2)
          · exact z)
        exact ⟨w3, l2.trans l3, r3⟩
      · refine ih O1 w1 r1 h1 fun i hi hn => ?_
        rcases List.mem_cons.mp (h2 i hi hn) with z | z
        · subst z; exact absurd ⟨hi, hn⟩ q
        · exact z
  exact go O O w r h fun i hi _ => hi
/-- a slot is stored, the value is known to all -/
theorem R.put (r : R K ent O w H σ ρ S) {i : Nat} {d : D} {v : V} (hi : i ∉ O) (h : Rep K w d v) : R K ent O w H (σ.set i (some v)) (ρ.set i (some d)) S where
  gd := r.gd
  ext := r.ext
  kn := r.kn
  val := fun j e hj n => by
    by_cases q : i = j
    · subst q
      have hl : i < ρ.length := by
        have := (List.getElem?_eq_some_iff.mp hj).1; simpa using this
      rw [List.getElem?_set_self hl] at hj; cases hj
      exact ⟨v, List.getElem?_set_self (by rw [← r.len]; exact hl), h⟩
    · rw [List.getElem?_set_ne q] at hj
      obtain ⟨u, h1, h2⟩ := r.val j e hj n
      exact ⟨u, by rw [List.getElem?_set_ne q]; exact h1, h2⟩
  own := fun j e hj n => by
    have q : i ≠ j := fun z => hi (z ▸ n)
    rw [List.getElem?_set_ne q] at hj
    obtain ⟨u, h1, h2⟩ := r.own j e hj n
    exact ⟨u, by rw [List.getElem?_set_ne q]; exact h1, h2⟩
  dis := fun j k a hj hk ej ek sj sk => by
    have q1 : i ≠ j := fun z => hi (z ▸ hj)
    have q2 : i ≠ k := fun z => hi (z ▸ hk)
    rw [List.getElem?_set_ne q1] at ej sj
    rw [List.getElem?_set_ne q2] at ek sk
    exact r.dis j k a hj hk ej ek sj sk
  len := by simpa using r.len
  exc := fun z hz hj hn => by
    have q : i ≠ z.i := fun e => hi (e ▸ hj)
    rw [List.getElem?_set_ne q] at hn ⊢
    exact r.exc z hz hj hn
/-- a slot is stored, the value is the def's own -/
theorem R.putOwn (r : R K ent O w H σ ρ S) {i : Nat} {d : D} {a : Addr} (h : Own K w H d a) (he : ent.H a = none) (hd : ∀ j, j ∈ O → j ≠ i → (∃ e, ρ[j]? = some (some e)) → σ[j]? ≠ some (some (.ref a))) :
    R K ent (i :: O) w H (σ.set i (some (.ref a))) (ρ.set i (some d)) S where
  gd := r.gd
  ext := r.ext
  kn := r.kn
  val := fun j e hj n => by
    have q : i ≠ j := fun z => n (by rw [z]; exact List.mem_cons_self)
    rw [List.getElem?_set_ne q] at hj
    obtain ⟨u, h1, h2⟩ := r.val j e hj fun z => n (List.mem_cons_of_mem _ z)
    exact ⟨u, by rw [List.getElem?_set_ne q]; exact h1, h2⟩
  own := fun j e hj n => by
    by_cases q : i = j
    · subst q
      have hl : i < ρ.length := by
        have := (List.getElem?_eq_some_iff.mp hj).1; simpa using this
      rw [List.getElem?_set_self hl] at hj; cases hj
      exact ⟨a, List.getElem?_set_self (by rw [← r.len]; exact hl), h, he⟩
    · rw [List.getElem?_set_ne q] at hj
      rcases List.mem_cons.mp n with z | z
      · exact absurd z.symm q
      · obtain ⟨u, h1, h2⟩ := r.own j e hj z
        exact ⟨u, by rw [List.getElem?_set_ne q]; exact h1, h2⟩
  dis := fun j k b hj hk ej ek sj sk => by
    by_cases q1 : i = j
    · by_cases q2 : i = k
      · exact q1.symm.trans q2
      · subst q1
        have hl : i < σ.length := by
          have := (List.getElem?_eq_some_iff.mp sj).1; simpa using this
        rw [List.getElem?_set_self hl] at sj; cases sj
        rw [List.getElem?_set_ne q2] at sk
        rcases List.mem_cons.mp hk with z | z
        · exact absurd z.symm q2
        · rw [List.getElem?_set_ne q2] at ek; exact absurd sk (hd k z (Ne.symm q2) ek)
    · rw [List.getElem?_set_ne q1] at ej sj
      have hj' : j ∈ O := (List.mem_cons.mp hj).elim (fun z => absurd z.symm q1) id
      by_cases q2 : i = k
      · subst q2
        have hl : i < σ.length := by
          have := (List.getElem?_eq_some_iff.mp sk).1; simpa using this
        rw [List.getElem?_set_self hl] at sk; cases sk
        exact absurd sj (hd j hj' (Ne.symm q1) ej)
      · rw [List.getElem?_set_ne q2] at ek sk
        exact r.dis j k b hj' ((List.mem_cons.mp hk).elim (fun z => absurd z.symm q2) id) ej ek sj sk
  len := by simpa using r.len
  exc := fun z hz hj hn => by
    by_cases q : i = z.i
    · have hl : i < ρ.length := by
        have := (List.getElem?_eq_some_iff.mp hn).1
        rw [q]; simpa using this
      rw [← q, List.getElem?_set_self hl] at hn; cases hn
    · rw [List.getElem?_set_ne q] at hn ⊢
      exact r.exc z hz ((List.mem_cons.mp hj).elim (fun e => absurd e.symm q) id) hn
/-- the def's own list, dict is changed -/
theorem R.upd (r : R K ent O w H σ ρ S) {i : Nat} {d d' : D} {a : Addr} {o : HO} (hi : i ∈ O) (hd : ρ[i]? = some (some d)) (hs : σ[i]? = some (some (.ref a))) (h : Own K w (upd H a o) d' a) : R K ent O w (upd H a o) σ (ρ.set i (some d')) S := by
  obtain ⟨b, s1, s2, s3⟩ := r.own i d hd hi
  rw [hs] at s1
  cases s1
  obtain ⟨t1, t2, t3⟩ := s2
  have hl : i < ρ.length := (List.getElem?_eq_some_iff.mp hd).1
  refine ⟨⟨r.gd.len, fun b u e => ?_, fun n u e => ?_, r.gd.inj, r.gd.nofz⟩, ⟨r.ext.le, r.ext.new, fun b u e => ?_, fun b hb => ?_, r.ext.fz⟩, r.kn, fun j e hj n => ?_, fun j e hj n => ?_, fun j k b hj hk ej ek => r.dis j k b hj hk ?_ ?_, by simpa using r.len, fun z hz hj hn => ?_⟩
  · rw [upd_ne (fun q => by rw [q, t1] at e; cases e)]
    exact r.gd.sub b u e
  · have ne : w.phi n ≠ a := t2 n (by rw [r.gd.len]; exact (List.getElem?_eq_some_iff.mp e).1)
    exact (r.gd.sto n u e).mono (.refl w) fun z hz => by rw [upd_ne ne]; exact hz
  · rcases r.ext.keep b u e with z | z
    · exact .inl z
    · refine .inr ?_
      rw [upd_ne (fun q => by rw [q, s3] at e; cases e)]
      exact z
  · by_cases q : b = a
    · rw [q, upd_same]; simp
    · rw [upd_ne q]; exact r.ext.there b hb
  · have q : i ≠ j := fun z => n (z ▸ hi)
    rw [List.getElem?_set_ne q] at hj
    exact r.val j e hj n
  · by_cases q : i = j
    · subst q
      rw [List.getElem?_set_self hl] at hj; cases hj
      exact ⟨a, hs, h, s3⟩
    · rw [List.getElem?_set_ne q] at hj
      obtain ⟨b, u1, u2, u3⟩ := r.own j e hj n
      have ne : b ≠ a := fun z => q (r.dis i j b hi n ⟨_, hd⟩ ⟨_, hj⟩ (by rw [z]; exact hs) u1)
      refine ⟨b, u1, ⟨u2.1, u2.2.1, ?_⟩, u3⟩
      obtain ⟨_, _, u4⟩ := u2
      cases e with
      | lst ds => obtain ⟨vs, e, r⟩ := u4; exact ⟨vs, by rw [upd_ne ne]; exact e, r⟩
      | dct ds => obtain ⟨vs, e, r⟩ := u4; exact ⟨vs, by rw [upd_ne ne]; exact e, r⟩
      | dtt ds => obtain ⟨vs, e, r⟩ := u4; exact ⟨vs, by rw [upd_ne ne]; exact e, r⟩
      | _ => exact u4.elim
  · obtain ⟨z, ez⟩ := ej
    by_cases q : i = j
    · exact ⟨_, q ▸ hd⟩
    · rw [List.getElem?_set_ne q] at ez; exact ⟨z, ez⟩
  · obtain ⟨z, ez⟩ := ek
    by_cases q : i = k
    · exact ⟨_, q ▸ hd⟩
    · rw [List.getElem?_set_ne q] at ez; exact ⟨z, ez⟩
  · by_cases q : i = z.i
    · rw [← q, List.getElem?_set_self hl] at hn; cases hn
    · rw [List.getElem?_set_ne q] at hn
      obtain ⟨h1, h2⟩ := r.exc z hz hj hn
      refine ⟨h1, h2.keeps fun dd vs e => ?_⟩
      have hno : ∀ fs, H a ≠ some (.xd fs) := fun fs => Own.noxd (K := K) (w := w) (d := d) ⟨t1, t2, t3⟩
      have ne : dd ≠ a := fun e' => hno vs (by rw [← e']; exact e)
      rw [upd_ne ne]
      exact e
/-- an object of the store is changed -/
theorem Gd.put (g : Gd K w H S) {n : Nat} {o o' : SO} {u : HO} (hn : S[n]? = some o) (h : RepO K w (upd H (w.phi n) u) (w.phi n) o') : Gd K w (upd H (w.phi n) u) (S.set n o') := by
  have hl : n < S.length := (List.getElem?_eq_some_iff.mp hn).1
  refine ⟨by simpa using g.len, fun b v e => ?_, fun k v e => ?_, g.inj, g.nofz⟩
  · rw [upd_ne (fun q => by rw [q, g.nofz n (by rw [g.len]; exact hl)] at e; cases e)]
    exact g.sub b v e
  · by_cases q : n = k
    · subst q
      rw [List.getElem?_set_self hl] at e; cases e
      exact h
    · rw [List.getElem?_set_ne q] at e
      have hk : k < S.length := (List.getElem?_eq_some_iff.mp e).1
      have ne : w.phi k ≠ w.phi n := fun z => q (g.inj _ _ (by rw [g.len]; exact hk) (by rw [g.len]; exact hl) z).symm
      exact (g.sto k v e).mono (.refl w) fun z hz => by rw [upd_ne ne]; exact hz
theorem Ext.put (w : Wit) (H : Hp) {n : Nat} {u : HO} (hn : n < w.m) (ht : H (w.phi n) ≠ none) : Ext w H w (upd H (w.phi n) u) where
  le := .refl w
  new := fun k h q => absurd q (Nat.not_lt.mpr h)
  keep := fun a o e => by
    by_cases q : a = w.phi n
    · exact .inl ⟨n, hn, q.symm⟩
    · exact .inr (by rw [upd_ne q]; exact e)
  there := fun a h => by
    by_cases q : a = w.phi n
    · rw [q, upd_same]; simp
    · rw [upd_ne q]; exact h
  fz := fun _ _ h => h
end
/-- a new object, known to all -/
def Wit.new (w : Wit) (a : Addr) (o : HO) : Wit := { w with F := L2.upd w.F a o }
section
variable {K : PySem.W.Frag} {w : Wit} {H : Hp} {S : Sto} {a : Addr} {o : HO}
theorem Le.new (h : w.F a = none) : Le w (w.new a o) := ⟨fun b u e => by
  show L2.upd w.F a o b = some u
  rw [upd_ne (fun q => by rw [q, h] at e; cases e)]; exact e, fun _ _ => rfl, Nat.le_refl _⟩
theorem Gd.noneF (g : Gd K w H S) (h : H a = none) : w.F a = none := by
  cases e : w.F a with
  | none => rfl
  | some u => rw [g.sub a u e] at h; cases h
theorem Gd.nophi (g : Gd K w H S) (h : H a = none) : ∀ n, n < w.m → w.phi n ≠ a := fun n hn q => by
  rw [g.len] at hn
  have := (g.sto n _ (List.getElem?_eq_getElem hn)).there
  exact this (q ▸ h)
theorem Gd.new (g : Gd K w H S) (h : H a = none) : Gd K (w.new a o) (upd H a o) S where
  len := g.len
  sub := fun b u e => by
    by_cases q : b = a
    · subst q
      rw [show (w.new b o).F b = some o from upd_same] at e; cases e
      exact upd_same
    · rw [show (w.new a o).F b = w.F b from upd_ne q] at e
      rw [upd_ne q]; exact g.sub b u e
  sto := fun n u e => (g.sto n u e).mono (Le.new (g.noneF h)) fun z hz => by
    show upd H a o (w.phi n) = some z
    rw [upd_ne (fun q => by rw [q, h] at hz; cases hz)]; exact hz
  inj := g.inj
  nofz := fun i hi => by
    show L2.upd w.F a o (w.phi i) = none
    rw [upd_ne (g.nophi h i hi)]; exact g.nofz i hi
theorem Ext.newF (g : Gd K w H S) (h : H a = none) : Ext w H (w.new a o) (upd H a o) where
  le := Le.new (g.noneF h)
  new := fun k h q => absurd q (Nat.not_lt.mpr h)
  keep := fun b u e => .inr (by rw [upd_ne (fun q => by rw [q, h] at e; cases e)]; exact e)
  there := fun b hb => by rw [upd_ne (fun q : b = a => hb (by rw [q]; exact h))]; exact hb
  fz := fun b hb e => by
    show L2.upd w.F a o b = none
    rw [upd_ne (fun q : b = a => hb (by rw [q]; exact h))]; exact e
/-- a new object, nobody's -/
theorem Gd.newO (g : Gd K w H S) (h : H a = none) : Gd K w (upd H a o) S where
  len := g.len
  sub := fun b u e => by
    rw [upd_ne (fun q => by rw [q, g.noneF h] at e; cases e)]; exact g.sub b u e
  sto := fun n u e => (g.sto n u e).mono (.refl w) fun z hz => by
    rw [upd_ne (fun q => by rw [q, h] at hz; cases hz)]; exact hz
  inj := g.inj
  nofz := g.nofz
theorem Ext.newO (w : Wit) (h : H a = none) : Ext w H w (upd H a o) where
  le := .refl w
  new := fun k h q => absurd q (Nat.not_lt.mpr h)
  keep := fun b u e => .inr (by rw [upd_ne (fun q => by rw [q, h] at e; cases e)]; exact e)
  there := fun b hb => by rw [upd_ne (fun q : b = a => hb (by rw [q]; exact h))]; exact hb
  fz := fun b hb e => e
end
end DL

/-! the judgements of the data layer -/
namespace DL
open PySem PySem.Spec PyProof.Rows L2

/-- how a value is known: to all; seen; new and nobody's -/
inductive Kd where | e | b | f
def KP (K : PySem.W.Frag) (k : Kd) (H : Hp) (w' : Wit) (H' : Hp) (d : D) (v : V) : Prop := match k with
  | .e => Rep K w' d v
  | .b => Rep K w' d v ∨ ∃ a, v = .ref a ∧ Own K w' H' d a
  | .f => ∃ a, v = .ref a ∧ H a = none ∧ Own K w' H' d a
theorem KP.b {K : PySem.W.Frag} {H : Hp} {w' : Wit} {H' : Hp} {d : D} {v : V} : ∀ {k : Kd}, KP K k H w' H' d v → KP K .b H w' H' d v
  | .e, h => .inl h
  | .b, h => h
  | .f, ⟨a, e, _, h⟩ => .inr ⟨a, e, h⟩
theorem KP.later {K : PySem.W.Frag} {w w1 w' : Wit} {H H1 H' : Hp} {d : D} {v : V} (x : Ext w H w1 H1) : ∀ {k : Kd}, KP K k H1 w' H' d v → KP K k H w' H' d v
  | .e, h => h
  | .b, h => h
  | .f, ⟨a, e, n, h⟩ => ⟨a, e, by
      cases q : H a with
      | none => rfl
      | some o => exact absurd n (x.there a (by rw [q]; simp)), h⟩

/-- what is wished of exceptions; what an except suite has caught -/
structure WZ where
  wx : WX
  xc : Option XC
def WZ.no (W : WZ) : WZ := ⟨fun _ _ _ _ => False, W.xc⟩
/-- what must hold behind an expression that comes to r -/
def Post (K : PySem.W.Frag) (k : Kd) (w : Wit) (H : Hp) (W : WZ) (σ : L2.St) (r : Res) (Q : VK) : Prop := match r with
  | .ok d S => ∀ v H' w', Ext w H w' H' → Gd K w' H' S → KP K k H w' H' d v → Q v H'
  | .exn x S => ∀ cls dx H' w', Ext w H w' H' → Gd K w' H' S → RepX K w' H' x cls dx → W.wx cls dx σ H'
  | .stuck => False
section
variable {K : PySem.W.Frag} {k : Kd} {w w1 : Wit} {H H1 : Hp} {W : WZ} {σ : L2.St} {r : Res} {Q Q' : VK}
theorem Post.later (x : Ext w H w1 H1) (p : Post K k w H W σ r Q) : Post K k w1 H1 W σ r Q := by
  cases r with
  | ok d S => exact fun v H' w' y g h => p v H' w' (x.trans y) g (h.later x)
  | exn e S => exact fun cls dx H' w' y g h => p cls dx H' w' (x.trans y) g h
  | stuck => exact p
theorem Post.imp (p : Post K k w H W σ r Q) (h : ∀ v H', Q v H' → Q' v H') : Post K k w H W σ r Q' := by
  cases r with
  | ok d S => exact fun v H' w' y g z => h _ _ (p v H' w' y g z)
  | exn e S => exact p
  | stuck => exact p
theorem Post.ofB (p : Post K .b w H W σ r Q) : Post K k w H W σ r Q := by
  cases r with
  | ok d S => exact fun v H' w' y g z => p v H' w' y g z.b
  | exn e S => exact p
  | stuck => exact p
/-- new things may be known to all -/
theorem Post.fOfE (p : Post K .e w H W σ r Q) : Post K .f w H W σ r Q := by
  cases r with
  | ok d S =>
    rintro v H' w' y g ⟨a, rfl, n, o⟩
    exact p _ H' (w'.fix H' a) (y.fix o.1 n) (g.fix o.1 o.2.1) o.rep
  | exn e S => exact p
  | stuck => exact p
/-- the first of two -/
theorem Post.bind {k1 : Kd} {f : D → Sto → Res} {Q1 : VK} (p : Post K k w H W σ (r.bind f) Q)
    (c : ∀ d S1 v H1 w1, Ext w H w1 H1 → Gd K w1 H1 S1 → KP K k1 H w1 H1 d v → Post K k w1 H1 W σ (f d S1) Q → Q1 v H1) : Post K k1 w H W σ r Q1 := by
  cases r with
  | ok d S => exact fun v H' w' y g z => c d S v H' w' y g z (p.later y)
  | exn e S => exact p
  | stuck => exact p
end

/-- the reading of an expression -/
def rd (K : PySem.W.Frag) (k : Kd) (W : WZ) (O : List Nat) (f : EF) : TE := fun σ H Q => ∃ (ent : Ent W.xc) (w : Wit) (ρ : DEnv) (S : Sto), R K ent O w H σ ρ S ∧ Post K k w H W σ (f ρ S) Q
structure DE (k : Kd) (X : Cx) (W : WZ) (O : List Nat) (e : Expr) (f : EF) : Prop where
  pe : PE X e (rd X.K k W O f)
theorem _root_.L2.PE.imp {X : Cx} {e : Expr} {t t' : TE} (h : PE X e t) (i : ∀ σ H Q, t' σ H Q → t σ H Q) : PE X e t' := ⟨fun pins s σ H Q I q => h.run pins s σ H Q I (i σ H Q q)⟩
theorem _root_.L2.PT.imp {X : Cx} {e : Expr} {t t' : TT} (h : PT X e t) (i : ∀ σ H Q, t' σ H Q → t σ H Q) : PT X e t' := ⟨fun pins s σ H Q I q => h.run pins s σ H Q I (i σ H Q q)⟩
theorem _root_.L2.PW.imp {X : Cx} {e : Expr} {t t' : TT} (h : PW X e t) (i : ∀ σ H Q, t' σ H Q → t σ H Q) : PW X e t' := ⟨fun wh pins s σ H Q I q => h.run wh pins s σ H Q I (i σ H Q q)⟩
theorem _root_.L2.PA.imp {X : Cx} {e : List Expr} {t t' : TA} (h : PA X e t) (i : ∀ σ H Q, t' σ H Q → t σ H Q) : PA X e t' := ⟨fun pos pins s σ H Q I q => h.run pos pins s σ H Q I (i σ H Q q)⟩
theorem _root_.L2.PS.imp {X : Cx} {e : Stmt} {t t' : TS} (h : PS X e t) (i : ∀ D σ H, t' D σ H → t D σ H) : PS X e t' := ⟨fun pins s σ H D I q => h.run pins s σ H D I (i D σ H q)⟩
theorem _root_.L2.PSs.imp {X : Cx} {e : List Stmt} {t t' : TS} (h : PSs X e t) (i : ∀ D σ H, t' D σ H → t D σ H) : PSs X e t' := ⟨fun pins s σ H D I q => h.run pins s σ H D I (i D σ H q)⟩
theorem _root_.L2.PI.imp {X : Cx} {tg e : Expr} {t t' : TI} (h : PI X tg e t) (i : ∀ σ H Q, t' σ H Q → t σ H Q) : PI X tg e t' := ⟨fun pins s σ H Q I q => h.run pins s σ H Q I (i σ H Q q)⟩
/-- what the invariant knows of sizes -/
def Sz (K : PySem.W.Frag) (H : Hp) : Prop := ∀ a vs, SqL K H a vs ∨ SqT K H a vs → vs.length ≤ sizeLine
theorem _root_.L2.Inv.szs {X : Cx} {pins : List (Addr × Obj)} {σ : L2.St} {H : Hp} {s : Shared} (I : Inv X pins σ H s) : Sz X.K H := fun a vs h => by
  rcases h with h | h
  · obtain ⟨_, _, _, z⟩ := I.list h; exact z
  · obtain ⟨_, _, _, z⟩ := I.tuple h; exact z
theorem _root_.L2.PE.sz {X : Cx} {e : Expr} {t : TE} (h : PE X e t) : PE X e (fun σ H Q => t σ H fun v H' => Sz X.K H' → Q v H') :=
  ⟨fun pins s σ H Q I q => thn (h.run pins s σ H _ I q) fun u s' ⟨v, H', I', r, z⟩ => ⟨v, H', I', r, z I'.szs⟩⟩
theorem _root_.L2.PE.sz0 {X : Cx} {e : Expr} {t : TE} (h : PE X e t) : PE X e (fun σ H Q => Sz X.K H → t σ H Q) :=
  ⟨fun pins s σ H Q I q => h.run pins s σ H _ I (q I.szs)⟩

section
variable {X : Cx} {W : WZ} {O : List Nat} {e : Expr} {f : EF} {k : Kd}
theorem DE.toB (h : DE k X W O e f) : DE .b X W O e f := ⟨h.pe.imp fun σ H Q ⟨ent, w, ρ, S, r, p⟩ => ⟨ent, w, ρ, S, r, p.ofB⟩⟩
theorem DE.toE (h : DE .f X W O e f) : DE .e X W O e f := ⟨h.pe.imp fun σ H Q ⟨ent, w, ρ, S, r, p⟩ => ⟨ent, w, ρ, S, r, p.fOfE⟩⟩
end

/-! ### names, constants -/
def eVar (i : Nat) : EF := fun ρ S => match ρ[i]? with
  | some (some d) => .ok d S
  | _ => .stuck
def eC (d : D) : EF := fun _ S => .ok d S
section
variable {X : Cx} {W : WZ} {O : List Nat}
theorem dv (i : Nat) {x : Str} {pos : Pos} (hO : i ∉ O := by decide) (hN : X.N[i]? = some x := by rfl) (hv : Vis X.env.scope x := by first | exact Or.inl rfl | exact Or.inr (Or.inl rfl) | exact Or.inr (Or.inr rfl)) (hd : (x == ("__debug__" : Str)) = false := by decide)
    (hcd : (x == ("__classdict__" : Str)) = false := by decide) : DE .e X W O (.Name x pos) (eVar i) := by
  refine ⟨(pe_var hN hv hd hcd).imp fun σ H Q ⟨ent, w, ρ, S, r, p⟩ => ?_⟩
  unfold eVar at p
  cases h : ρ[i]? with
  | none => rw [h] at p; exact p.elim
  | some o => cases o with
    | none => rw [h] at p; exact p.elim
    | some d =>
      rw [h] at p
      obtain ⟨v, e, q⟩ := r.val i d h hO
      exact ⟨v, e, p v H w (.refl _ _) r.gd q⟩
/-- seen only: it may be the def's own -/
theorem dvb (i : Nat) {x : Str} {pos : Pos} (hN : X.N[i]? = some x := by rfl) (hv : Vis X.env.scope x := by first | exact Or.inl rfl | exact Or.inr (Or.inl rfl) | exact Or.inr (Or.inr rfl)) (hd : (x == ("__debug__" : Str)) = false := by decide)
    (hcd : (x == ("__classdict__" : Str)) = false := by decide) : DE .b X W O (.Name x pos) (eVar i) := by
  refine ⟨(pe_var hN hv hd hcd).imp fun σ H Q ⟨ent, w, ρ, S, r, p⟩ => ?_⟩
  unfold eVar at p
  cases h : ρ[i]? with
  | none => rw [h] at p; exact p.elim
  | some o => cases o with
    | none => rw [h] at p; exact p.elim
    | some d =>
      rw [h] at p
      by_cases hO : i ∈ O
      · obtain ⟨a, e, q, _⟩ := r.own i d h hO
        exact ⟨_, e, p _ H w (.refl _ _) r.gd (.inr ⟨a, rfl, q⟩)⟩
      · obtain ⟨v, e, q⟩ := r.val i d h hO
        exact ⟨v, e, p v H w (.refl _ _) r.gd (.inl q)⟩
theorem rd_const {K : PySem.W.Frag} {d : D} {v : V} (h : ∀ w, Rep K w d v) : ∀ σ H Q, rd K .e W O (eC d) σ H Q → tC v σ H Q := fun σ H Q ⟨ent, w, ρ, S, r, p⟩ => p v H w (.refl _ _) r.gd (h w)
theorem de_int {i j pos} : DE .e X W O (.Constant (.int i) j pos) (eC (.int i)) := ⟨pe_int.imp (rd_const fun _ => .int i)⟩
theorem de_bl {i j pos} : DE .e X W O (.Constant (.bool i) j pos) (eC (.bl i)) := ⟨pe_bl.imp (rd_const fun _ => .bl i)⟩
theorem de_non {j pos} : DE .e X W O (.Constant .none j pos) (eC .non) := ⟨pe_non.imp (rd_const fun _ => .non)⟩
theorem de_str {i j pos} : DE .e X W O (.Constant (.str i) j pos) (eC (.str i)) := ⟨pe_str.imp (rd_const fun _ => .str i)⟩
/-- a module's constant -/
theorem de_glob {x : Str} {v : V} {u : Value} {d : D} {pos : Pos} (hm : X.mg x = some u) (r : RelV v u) (h : ∀ w, Rep X.K w d v) (hg : Gl X x := by rfl) (hd : (x == ("__debug__" : Str)) = false := by decide) : DE .e X W O (.Name x pos) (eC d) :=
  ⟨(pe_glob hg hm r hd).imp (rd_const h)⟩
end

/-! ### things seen -/
def deref (S : Sto) (d : D) : D := match d with
  | .obj n => (match S[n]? with
    | some (.lst ds) => .lst ds
    | some (.dct kvs) => .dct kvs
    | some (.dtt kvs) => .dtt kvs
    | some (.ins c fs) => .ins c fs
    | none => .obj n)
  | d => d
@[simp] theorem deref_non (S : Sto) : deref S .non = .non := rfl
@[simp] theorem deref_bl (S : Sto) (b : Bool) : deref S (.bl b) = .bl b := rfl
@[simp] theorem deref_int (S : Sto) (b : Int) : deref S (.int b) = .int b := rfl
@[simp] theorem deref_str (S : Sto) (b : Str) : deref S (.str b) = .str b := rfl
@[simp] theorem deref_tup (S : Sto) (b : List D) : deref S (.tup b) = .tup b := rfl
@[simp] theorem deref_ctp (S : Sto) (b : List D) : deref S (.ctp b) = .ctp b := rfl
@[simp] theorem deref_lst (S : Sto) (b : List D) : deref S (.lst b) = .lst b := rfl
@[simp] theorem deref_dct (S : Sto) (b : List (D × D)) : deref S (.dct b) = .dct b := rfl
@[simp] theorem deref_dtt (S : Sto) (b : List (D × D)) : deref S (.dtt b) = .dtt b := rfl
@[simp] theorem deref_ins (S : Sto) (c : Str) (b : List (Str × D)) : deref S (.ins c b) = .ins c b := rfl
@[simp] theorem deref_cls (S : Sto) (b : Str) : deref S (.cls b) = .cls b := rfl

/-- what is seen at v: the top of it as it stands in the heap -/
inductive Vw (K : PySem.W.Frag) (w : Wit) (H : Hp) : D → V → Prop
  | non : Vw K w H .non .non
  | bl (b : Bool) : Vw K w H (.bl b) (.bl b)
  | int (i : Int) : Vw K w H (.int i) (.int i)
  | str (x : Str) : Vw K w H (.str x) (.str x)
  | tup {a : Addr} {vs : List V} {ds : List D} (h : w.F a = some (.tup vs)) (r : Reps K w ds vs) : Vw K w H (.tup ds) (.ref a)
  | ctp {a : Addr} {vs : List V} {ds : List D} (h : SqT K (fun _ => none) a vs) (r : Reps K w ds vs) : Vw K w H (.ctp ds) (.ref a)
  | lst {a : Addr} {vs : List V} {ds : List D} (h : SqL K H a vs) (r : Reps K w ds vs) : Vw K w H (.lst ds) (.ref a)
  | dK {a : Addr} {vs : List (Key × V)} {ds : List (D × D)} (h : H a = some (.dK vs)) (r : RepK K w ds vs) : Vw K w H (.dct ds) (.ref a)
  | dT {a : Addr} {vs : List (List Key × V)} {ds : List (D × D)} (h : H a = some (.dT vs)) (r : RepT K w ds vs) : Vw K w H (.dtt ds) (.ref a)
  | ins {a dx : Addr} {c : Str} {fs : List (Str × D)} {vs : List (Str × V)} (h : H a = some (.ins (He.ga K c) dx vs)) (r : RepF K w fs vs) : Vw K w H (.ins c fs) (.ref a)
  | obj {n : Nat} (h : n < w.m) : Vw K w H (.obj n) (.ref (w.phi n))
  | cls (c : Str) : Vw K w H (.cls c) (.ref (He.ga K c))
theorem KP.vw {K : PySem.W.Frag} {w : Wit} {H0 H : Hp} {S : Sto} {d : D} {v : V} {k : Kd} (g : Gd K w H S) (h0 : KP K k H0 w H d v) : Vw K w H (deref S d) v := by
  rcases (h0.b : KP K .b H0 w H d v) with h | ⟨a, rfl, h⟩
  · cases h with
    | non => exact .non
    | bl b => exact .bl b
    | int b => exact .int b
    | str b => exact .str b
    | tup h r => exact .tup h r
    | ctp h r => exact .ctp h r
    | lst h r => exact .lst (SqL.monoF g.sub h) r
    | dK h r => exact .dK (g.sub _ _ h) r
    | dT h r => exact .dT (g.sub _ _ h) r
    | ins h r => exact .ins (g.sub _ _ h) r
    | @obj n h =>
      unfold deref
      simp only
      cases e : S[n]? with
      | none => exact .obj h
      | some o =>
        have q := g.sto n o e
        cases o with
        | lst ds => obtain ⟨vs, e, r⟩ := q; exact .lst (.inl (.inl e)) r
        | dct ds => obtain ⟨vs, e, r⟩ := q; exact .dK e r
        | dtt ds => obtain ⟨vs, e, r⟩ := q; exact .dT e r
        | ins c fs => obtain ⟨dx, vs, e, r⟩ := q; exact .ins e r
    | cls c => exact .cls c
  · obtain ⟨_, _, h⟩ := h
    cases d with
    | lst ds => obtain ⟨vs, e, r⟩ := h; exact .lst (.inl (.inl e)) r
    | dct ds => obtain ⟨vs, e, r⟩ := h; exact .dK e r
    | dtt ds => obtain ⟨vs, e, r⟩ := h; exact .dT e r
    | _ => exact h.elim
theorem KP.ext {K : PySem.W.Frag} {w w' : Wit} {H0 H1 H H' : Hp} {d : D} {v : V} {k : Kd} (h0 : KP K k H0 w H d v) (x : Ext w H w' H') : KP K .b H1 w' H' d v := by
  rcases (h0.b : KP K .b H0 w H d v) with h | ⟨a, rfl, h⟩
  · exact .inl (h.mono x.le)
  · exact .inr ⟨a, rfl, h.ext x⟩

/-! ### operators on one, two things; calls -/
/-- g of one thing -/
def r1 (K : PySem.W.Frag) (k : Kd) (g : D → Option D) : V → Hp → VK → Prop := fun x H Q => ∃ w S d1 d, Gd K w H S ∧ KP K .b H w H d1 x ∧ g (deref S d1) = some d ∧ ∀ v H' w', Ext w H w' H' → Gd K w' H' S → KP K k H w' H' d v → Q v H'
def r2 (K : PySem.W.Frag) (k : Kd) (g : D → D → Option D) : R2 := fun x y H Q => ∃ w S d1 d2 d, Gd K w H S ∧ KP K .b H w H d1 x ∧ KP K .b H w H d2 y ∧ g (deref S d1) (deref S d2) = some d ∧ ∀ v H' w', Ext w H w' H' → Gd K w' H' S → KP K k H w' H' d v → Q v H'
inductive KPs (K : PySem.W.Frag) (w : Wit) (H : Hp) : List D → List V → Prop
  | nil : KPs K w H [] []
  | cons {d : D} {v : V} {ds : List D} {vs : List V} (h : KP K .b H w H d v) (t : KPs K w H ds vs) : KPs K w H (d :: ds) (v :: vs)
def rN (K : PySem.W.Frag) (k : Kd) (g : List D → Option D) : List V → Hp → VK → Prop := fun xs H Q => ∃ w S ds d, Gd K w H S ∧ KPs K w H ds xs ∧ g (ds.map (deref S)) = some d ∧ ∀ v H' w', Ext w H w' H' → Gd K w' H' S → KP K k H w' H' d v → Q v H'

def e1 (g : D → Option D) (fa : EF) : EF := fun ρ S => (fa ρ S).bind fun x S1 => .ofOpt (g (deref S1 x)) S1
def e2 (g : D → D → Option D) (fa fb : EF) : EF := fun ρ S => (fa ρ S).bind fun x S1 => (fb ρ S1).bind fun y S2 => .ofOpt (g (deref S2 x) (deref S2 y)) S2
section
variable {X : Cx} {W : WZ} {O : List Nat} {a b : Expr} {fa fb : EF} {k ka kb : Kd}
theorem tUn_of {K : PySem.W.Frag} {g : D → Option D} : ∀ σ H Q, rd K k W O (e1 g fa) σ H Q → tUn (r1 K k g) (rd K ka W O fa) σ H Q := by
  rintro σ H Q ⟨ent, w, ρ, S, r, p⟩
  refine ⟨ent, w, ρ, S, r, p.bind fun d S1 v H1 w1 x g1 z p1 => ?_⟩
  cases e : g (deref S1 d) with
  | none => rw [e] at p1; exact p1.elim
  | some d' => rw [e] at p1; exact ⟨w1, S1, d, d', g1, z.ext (.refl _ _), e, p1⟩
theorem tOp_of {K : PySem.W.Frag} {g : D → D → Option D} : ∀ σ H Q, rd K k W O (e2 g fa fb) σ H Q → tOp (r2 K k g) (rd K ka W O fa) (rd K kb W O fb) σ H Q := by
  rintro σ H Q ⟨ent, w, ρ, S, r, p⟩
  refine ⟨ent, w, ρ, S, r, p.bind fun d S1 v H1 w1 x g1 z p1 => ?_⟩
  refine ⟨ent, w1, ρ, S1, r.later x g1, p1.bind fun d2 S2 v2 H2 w2 x2 g2 z2 p2 => ?_⟩
  cases e : g (deref S2 d) (deref S2 d2) with
  | none => rw [e] at p2; exact p2.elim
  | some d' => rw [e] at p2; exact ⟨w2, S2, d, d2, d', g2, z.ext x2, z2.ext (.refl _ _), e, p2⟩
theorem de_bin {op : Operator} {g : D → D → Option D} {pos : Pos} (ho : OpR X (binaryOp op) (r2 X.K k g)) (ha : DE ka X W O a fa) (hb : DE kb X W O b fb) : DE k X W O (.BinOp a op b pos) (e2 g fa fb) := ⟨(pe_op ho ha.pe hb.pe).imp tOp_of⟩
theorem de_un {op : UnaryOp} {g : D → Option D} {pos : Pos} (ho : UnR X (unaryOp op) (r1 X.K k g)) (ha : DE ka X W O a fa) : DE k X W O (.UnaryOp op a pos) (e1 g fa) := ⟨(pe_un ho ha.pe).imp tUn_of⟩
theorem de_cmp {op : CmpOp} {g : D → D → Option D} {pos : Pos} (ho : OpR X (compareOp op) (r2 X.K .e g)) (ha : DE ka X W O a fa) (hb : DE kb X W O b fb) (hm : behindInMarks op b = false := by first | exact nomark _ | rfl) : DE .e X W O (.Compare a [op] [b] pos) (e2 g fa fb) := ⟨(pe_cmpR ho ha.pe hb.pe hm).imp tOp_of⟩
theorem de_ix {g : D → D → Option D} {pos : Pos} (hr : IxR X (r2 X.K .e g)) (ha : DE ka X W O a fa) (hb : DE kb X W O b fb) (hs : PlainIx b := by exact fun _ _ => rfl) : DE .e X W O (.Subscript a b pos) (e2 g fa fb) := ⟨(pe_ix hr ha.pe hb.pe hs).imp tOp_of⟩
end

/-! ### argument lists -/
inductive Ress where
  | ok (ds : List D) (S : Sto) | exn (x : D) (S : Sto) | stuck
def Ress.bind (r : Ress) (f : List D → Sto → Res) : Res := match r with
  | .ok d S => f d S
  | .exn x S => .exn x S
  | .stuck => .stuck
abbrev AF := DEnv → Sto → Ress
def aNil : AF := fun _ S => .ok [] S
def aCons (f : EF) (g : AF) : AF := fun ρ S => match f ρ S with
  | .ok d S1 => (match g ρ S1 with
    | .ok ds S2 => .ok (d :: ds) S2
    | .exn x S2 => .exn x S2
    | .stuck => .stuck)
  | .exn x S1 => .exn x S1
  | .stuck => .stuck
/-- known to all, one by one -/
def PostA (K : PySem.W.Frag) (P : Wit → Hp → List D → List V → Prop) (w : Wit) (H : Hp) (W : WZ) (σ : L2.St) (r : Ress) (Q : List V → Hp → Prop) : Prop := match r with
  | .ok ds S => ∀ vs H' w', Ext w H w' H' → Gd K w' H' S → P w' H' ds vs → Q vs H'
  | .exn x S => ∀ cls dx H' w', Ext w H w' H' → Gd K w' H' S → RepX K w' H' x cls dx → W.wx cls dx σ H'
  | .stuck => False
theorem PostA.later {K : PySem.W.Frag} {P : Wit → Hp → List D → List V → Prop} {w w1 : Wit} {H H1 : Hp} {W : WZ} {σ : L2.St} {r : Ress} {Q : List V → Hp → Prop} (x : Ext w H w1 H1) (p : PostA K P w H W σ r Q) : PostA K P w1 H1 W σ r Q := by
  cases r with
  | ok d S => exact fun v H' w' y g h => p v H' w' (x.trans y) g h
  | exn e S => exact fun cls dx H' w' y g h => p cls dx H' w' (x.trans y) g h
  | stuck => exact p
abbrev PRep (K : PySem.W.Frag) : Wit → Hp → List D → List V → Prop := fun w _ ds vs => Reps K w ds vs
abbrev PKP (K : PySem.W.Frag) : Wit → Hp → List D → List V → Prop := fun w H ds vs => KPs K w H ds vs
def rdA (K : PySem.W.Frag) (P : Wit → Hp → List D → List V → Prop) (W : WZ) (O : List Nat) (f : AF) : TA := fun σ H Q => ∃ (ent : Ent W.xc) (w : Wit) (ρ : DEnv) (S : Sto), R K ent O w H σ ρ S ∧ PostA K P w H W σ (f ρ S) Q
/-- arguments known to all -/
structure DA (X : Cx) (W : WZ) (O : List Nat) (es : List Expr) (f : AF) : Prop where
  pa : PA X es (rdA X.K (PRep X.K) W O f)
/-- arguments seen -/
structure DAb (X : Cx) (W : WZ) (O : List Nat) (es : List Expr) (f : AF) : Prop where
  pa : PA X es (rdA X.K (PKP X.K) W O f)
section
variable {X : Cx} {W : WZ} {O : List Nat} {e : Expr} {es : List Expr} {f : EF} {g : AF} {k : Kd}
theorem da_nil : DA X W O [] aNil := ⟨pa_nil.imp fun σ H Q ⟨ent, w, ρ, S, r, p⟩ => p [] H w (.refl _ _) r.gd .nil⟩
theorem dab_nil : DAb X W O [] aNil := ⟨pa_nil.imp fun σ H Q ⟨ent, w, ρ, S, r, p⟩ => p [] H w (.refl _ _) r.gd .nil⟩
theorem KPs.ext {K : PySem.W.Frag} {w w' : Wit} {H H' : Hp} {ds : List D} {vs : List V} (h : KPs K w H ds vs) (x : Ext w H w' H') : KPs K w' H' ds vs := by
  induction h with
  | nil => exact .nil
  | cons h t ih => exact .cons (h.ext x) ih
theorem aCons_post {P1 : D → V → Wit → Hp → Prop} {P : Wit → Hp → List D → List V → Prop} (hP : ∀ d v w1 H1 w2 H2 ds vs, Ext w1 H1 w2 H2 → P1 d v w1 H1 → P w2 H2 ds vs → P w2 H2 (d :: ds) (v :: vs))
    (hk : ∀ d v H0 w1 H1, KP X.K k H0 w1 H1 d v → P1 d v w1 H1) :
    ∀ σ H Q, rdA X.K P W O (aCons f g) σ H Q → tCons (rd X.K k W O f) (rdA X.K P W O g) σ H Q := by
  rintro σ H Q ⟨ent, w, ρ, S, r, p⟩
  refine ⟨ent, w, ρ, S, r, ?_⟩
  unfold aCons at p
  cases e1 : f ρ S with
  | stuck => rw [e1] at p; exact p
  | exn x S1 => rw [e1] at p; exact p
  | ok d S1 =>
    rw [e1] at p
    refine fun v H1 w1 x1 g1 z1 => ⟨ent, w1, ρ, S1, r.later x1 g1, ?_⟩
    dsimp only at p
    cases e2 : g ρ S1 with
    | stuck => rw [e2] at p; exact p
    | exn x S2 => rw [e2] at p; exact fun cls dx H' w' y g' h => p cls dx H' w' (x1.trans y) g' h
    | ok ds S2 =>
      rw [e2] at p
      exact fun vs H2 w2 x2 g2 z2 => p (v :: vs) H2 w2 (x1.trans x2) g2 (hP d v w1 H1 w2 H2 ds vs x2 (hk d v _ w1 H1 z1) z2)
theorem da_cons (ha : DE .e X W O e f) (hr : DA X W O es g) (hs : starEach (e :: es) X.env = (false, eval e X.env) :: starEach es X.env := by rfl) : DA X W O (e :: es) (aCons f g) :=
  ⟨(pa_cons ha.pe hr.pa hs).imp (aCons_post (P1 := fun d v w H => Rep X.K w d v) (fun d v w1 H1 w2 H2 ds vs x h t => Reps.cons (h.mono x.le) t) fun d v H0 w1 H1 z => z)⟩
theorem dab_cons (ha : DE k X W O e f) (hr : DAb X W O es g) (hs : starEach (e :: es) X.env = (false, eval e X.env) :: starEach es X.env := by rfl) : DAb X W O (e :: es) (aCons f g) :=
  ⟨(pa_cons ha.pe hr.pa hs).imp (aCons_post (P1 := fun d v w H => KP X.K .b H w H d v) (fun d v w1 H1 w2 H2 ds vs x h t => KPs.cons (h.ext x) t) fun d v H0 w1 H1 z => z.ext (.refl _ _))⟩
end
def eN (g : List D → Option D) (f : AF) : EF := fun ρ S => (f ρ S).bind fun ds S1 => .ofOpt (g (ds.map (deref S1))) S1
section
variable {X : Cx} {W : WZ} {O : List Nat} {e : Expr} {es : List Expr} {f : EF} {fa : AF} {k : Kd}
theorem tCB_of {K : PySem.W.Frag} {g : List D → Option D} : ∀ σ H Q, rd K k W O (eN g fa) σ H Q → tCB (rN K k g) (rdA K (PKP K) W O fa) σ H Q := by
  rintro σ H Q ⟨ent, w, ρ, S, r, p⟩
  refine ⟨ent, w, ρ, S, r, ?_⟩
  unfold eN at p
  cases e1 : fa ρ S with
  | stuck => rw [e1] at p; exact p
  | exn x S1 => rw [e1] at p; exact p
  | ok ds S1 =>
    rw [e1] at p
    refine fun vs H1 w1 x1 g1 z1 => ?_
    have p : Post K k w H W σ (.ofOpt (g (ds.map (deref S1))) S1) Q := p
    cases e2 : g (ds.map (deref S1)) with
    | none => rw [e2] at p; exact p.elim
    | some d => rw [e2] at p; exact ⟨w1, S1, ds, d, g1, z1, e2, Post.later (r := .ok d S1) x1 p⟩
theorem de_callB {id : String} {g : List D → Option D} {x : Str} {p pos : Pos} (hc : CallR X (.builtin id) (rN X.K k g)) (hv : bootBuiltins x = some (.builtin id)) (hm : X.mg x = none) (ha : DAb X W O (e :: es) fa) (hg : Gl X x := by rfl) (hn : x ≠ "__name__" := by decide) (hdb : (x == ("__debug__" : Str)) = false := by decide)
    (hs : starEach (e :: es) X.env = (false, eval e X.env) :: starEach es X.env := by rfl) (hpl : (backTo pos (starEach es X.env)).any (·.1) = false := by rfl) : DE k X W O (.Call (.Name x p) (e :: es) [] pos) (eN g fa) := ⟨(pe_callB hc hg hm hv ha.pa hn hdb hs hpl).imp tCB_of⟩
theorem de_callTy {T : String} {g : List D → Option D} {x : Str} {p pos : Pos} (hc : CallR X (.type T) (rN X.K k g)) (hv : bootBuiltins x = some (.type T)) (hm : X.mg x = none) (ha : DAb X W O (e :: es) fa) (hg : Gl X x := by rfl) (hn : x ≠ "__name__" := by decide) (hdb : (x == ("__debug__" : Str)) = false := by decide)
    (hs : starEach (e :: es) X.env = (false, eval e X.env) :: starEach es X.env := by rfl) (hpl : (backTo pos (starEach es X.env)).any (·.1) = false := by rfl) : DE k X W O (.Call (.Name x p) (e :: es) [] pos) (eN g fa) := ⟨(pe_callTy hc hg hm hv ha.pa hn hdb hs hpl).imp tCB_of⟩
end
end DL

/-! tests, statements, loops, comprehensions, defs -/
namespace DL
open PySem PySem.Spec PyProof.Rows L2

/-! ### tests -/
def PostT (K : PySem.W.Frag) (w : Wit) (H : Hp) (W : WZ) (σ : L2.St) (r : Res) (Q : Bool → Hp → Prop) : Prop := match r with
  | .ok d S => ∃ b, d = .bl b ∧ ∀ H' w', Ext w H w' H' → Gd K w' H' S → Q b H'
  | .exn x S => ∀ cls dx H' w', Ext w H w' H' → Gd K w' H' S → RepX K w' H' x cls dx → W.wx cls dx σ H'
  | .stuck => False
section
variable {K : PySem.W.Frag} {k : Kd} {w w1 : Wit} {H H1 : Hp} {W : WZ} {σ : L2.St} {r : Res} {Q : Bool → Hp → Prop}
theorem PostT.later (x : Ext w H w1 H1) (p : PostT K w H W σ r Q) : PostT K w1 H1 W σ r Q := by
  cases r with
  | ok d S => obtain ⟨b, e, p⟩ := p; exact ⟨b, e, fun H' w' y g => p H' w' (x.trans y) g⟩
  | exn e S => exact fun cls dx H' w' y g h => p cls dx H' w' (x.trans y) g h
  | stuck => exact p
theorem KP.bool {H' : Hp} {w' : Wit} {b : Bool} {v : V} (h : KP K k H w' H' (.bl b) v) : v = .bl b := by
  rcases (h.b : KP K .b H w' H' (.bl b) v) with h | ⟨a, _, h⟩
  · cases h; rfl
  · exact h.2.2.elim
theorem PostT.val (p : PostT K w H W σ r Q) : Post K k w H W σ r (fun v H' => ∃ b, v = .bl b ∧ Q b H') := by
  cases r with
  | ok d S => obtain ⟨b, rfl, p⟩ := p; exact fun v H' w' y g z => ⟨b, z.bool, p H' w' y g⟩
  | exn e S => exact p
  | stuck => exact p
end
def rdT (K : PySem.W.Frag) (W : WZ) (O : List Nat) (f : EF) : TT := fun σ H Q => ∃ (ent : Ent W.xc) (w : Wit) (ρ : DEnv) (S : Sto), R K ent O w H σ ρ S ∧ PostT K w H W σ (f ρ S) Q
structure DT (X : Cx) (W : WZ) (O : List Nat) (e : Expr) (f : EF) : Prop where
  pt : PT X e (rdT X.K W O f)
structure DW (X : Cx) (W : WZ) (O : List Nat) (e : Expr) (f : EF) : Prop where
  pw : PW X e (rdT X.K W O f)
theorem rdT_val {K : PySem.W.Frag} {W : WZ} {O : List Nat} {f : EF} {k : Kd} : ∀ σ H Q, rdT K W O f σ H Q → rd K k W O f σ H (fun v H' => ∃ b, v = .bl b ∧ Q b H') :=
  fun σ H Q ⟨ent, w, ρ, S, r, p⟩ => ⟨ent, w, ρ, S, r, p.val⟩

def eAnd (fa fb : EF) : EF := fun ρ S => (fa ρ S).bind fun x S1 => match x with
  | .bl true => fb ρ S1
  | .bl false => .ok (.bl false) S1
  | _ => .stuck
def eOr (fa fb : EF) : EF := fun ρ S => (fa ρ S).bind fun x S1 => match x with
  | .bl true => .ok (.bl true) S1
  | .bl false => fb ρ S1
  | _ => .stuck
def notF : D → Option D
  | .bl b => some (.bl !b)
  | _ => none
def eNot (fa : EF) : EF := fun ρ S => (fa ρ S).bind fun x S1 => .ofOpt (notF x) S1
def eIf (fc fa fb : EF) : EF := fun ρ S => (fc ρ S).bind fun x S1 => match x with
  | .bl true => fa ρ S1
  | .bl false => fb ρ S1
  | _ => .stuck
theorem PostT.bind {K : PySem.W.Frag} {w : Wit} {H : Hp} {W : WZ} {σ : L2.St} {r : Res} {f : D → Sto → Res} {Q : Bool → Hp → Prop} {Q1 : Bool → Hp → Prop} (p : PostT K w H W σ (r.bind f) Q)
    (hs : ∀ d S, f d S ≠ .stuck → ∃ b, d = .bl b) (c : ∀ b S1 H1 w1, Ext w H w1 H1 → Gd K w1 H1 S1 → PostT K w1 H1 W σ (f (.bl b) S1) Q → Q1 b H1) : PostT K w H W σ r Q1 := by
  cases r with
  | ok d S =>
    have h : f d S ≠ .stuck := fun q => by
      have p' : PostT K w H W σ (f d S) Q := p
      rw [q] at p'; exact p'
    obtain ⟨b, rfl⟩ := hs d S h
    exact ⟨b, rfl, fun H' w' y g => c b S H' w' y g (PostT.later y p)⟩
  | exn e S => exact p
  | stuck => exact p
theorem Post.bindT {K : PySem.W.Frag} {k : Kd} {w : Wit} {H : Hp} {W : WZ} {σ : L2.St} {r : Res} {f : D → Sto → Res} {Q : VK} {Q1 : Bool → Hp → Prop} (p : Post K k w H W σ (r.bind f) Q)
    (hs : ∀ d S, f d S ≠ .stuck → ∃ b, d = .bl b) (c : ∀ b S1 H1 w1, Ext w H w1 H1 → Gd K w1 H1 S1 → Post K k w1 H1 W σ (f (.bl b) S1) Q → Q1 b H1) : PostT K w H W σ r Q1 := by
  cases r with
  | ok d S =>
    have h : f d S ≠ .stuck := fun q => by
      have p' : Post K k w H W σ (f d S) Q := p
      rw [q] at p'; exact p'
    obtain ⟨b, rfl⟩ := hs d S h
    exact ⟨b, rfl, fun H' w' y g => c b S H' w' y g (Post.later y p)⟩
  | exn e S => exact p
  | stuck => exact p
section
variable {X : Cx} {W : WZ} {O : List Nat} {a b : Expr} {rest : List Expr} {fa fb fc : EF} {k ka kb : Kd} {pos : Pos}
/-- a comparison as a test -/
theorem dt_cmp {op : CmpOp} {g : D → D → Option D} (ho : OpR X (compareOp op) (r2 X.K .e g)) (ha : DE ka X W O a fa) (hb : DE kb X W O b fb) (hm : behindInMarks op b = false := by first | exact nomark _ | rfl) : DT X W O (.Compare a [op] [b] pos) (e2 g fa fb) :=
  ⟨(pt_cmpR ho ha.pe hb.pe hm).imp fun σ H Q h => tOp_of (k := .e) σ H _ (rdT_val (k := .e) σ H Q h)⟩
/-- any expression that comes to a bool -/
theorem dt_val (ha : DE k X W O a fa) (he : ∀ whole, isTrue a X.env whole = (do let v ← whole; standAt a.pos; holding [v] (truthy v)) := by intro _; rfl) : DT X W O a fa :=
  ⟨(pt_val ha.pe he).imp fun σ H Q h => rdT_val (k := k) σ H Q h⟩
theorem dt_bool (h : DW X W O a fa) : DT X W O a fa := ⟨h.pw.pt⟩
theorem dw_and1 (ha : DT X W O a fa) : DW X W O (.BoolOp .And [a] pos) fa := ⟨pw_and1 ha.pt⟩
theorem dw_or1 (ha : DT X W O a fa) : DW X W O (.BoolOp .Or [a] pos) fa := ⟨pw_or1 ha.pt⟩
theorem and_bool {fb : EF} {ρ : DEnv} : ∀ (d : D) (S : Sto), (match d with | .bl true => fb ρ S | .bl false => Res.ok (.bl false) S | _ => Res.stuck) ≠ Res.stuck → ∃ b, d = .bl b := fun d S h => by
  cases d with
  | bl b => exact ⟨b, rfl⟩
  | _ => exact absurd rfl h
theorem or_bool {fb : EF} {ρ : DEnv} : ∀ (d : D) (S : Sto), (match d with | .bl true => Res.ok (.bl true) S | .bl false => fb ρ S | _ => Res.stuck) ≠ Res.stuck → ∃ b, d = .bl b := fun d S h => by
  cases d with
  | bl b => exact ⟨b, rfl⟩
  | _ => exact absurd rfl h
theorem if_bool {fa fb : EF} {ρ : DEnv} : ∀ (d : D) (S : Sto), (match d with | .bl true => fa ρ S | .bl false => fb ρ S | _ => Res.stuck) ≠ Res.stuck → ∃ b, d = .bl b := fun d S h => by
  cases d with
  | bl b => exact ⟨b, rfl⟩
  | _ => exact absurd rfl h
theorem dw_and (ha : DT X W O a fa) (hb : DW X W O (.BoolOp .And (b :: rest) pos) fb) : DW X W O (.BoolOp .And (a :: b :: rest) pos) (eAnd fa fb) :=
  ⟨(pw_and ha.pt hb.pw).imp fun σ H Q ⟨ent, w, ρ, S, r, p⟩ => ⟨ent, w, ρ, S, r, p.bind and_bool fun c S1 H1 w1 x g q => by
    cases c with
    | true => rw [if_pos rfl]; exact ⟨ent, w1, ρ, S1, r.later x g, q⟩
    | false => rw [if_neg Bool.false_ne_true]; obtain ⟨_, e, q⟩ := q; cases e; exact q H1 w1 (.refl _ _) g⟩⟩
theorem dw_or (ha : DT X W O a fa) (hb : DW X W O (.BoolOp .Or (b :: rest) pos) fb) : DW X W O (.BoolOp .Or (a :: b :: rest) pos) (eOr fa fb) :=
  ⟨(pw_or ha.pt hb.pw).imp fun σ H Q ⟨ent, w, ρ, S, r, p⟩ => ⟨ent, w, ρ, S, r, p.bind or_bool fun c S1 H1 w1 x g q => by
    cases c with
    | true => rw [if_pos rfl]; obtain ⟨_, e, q⟩ := q; cases e; exact q H1 w1 (.refl _ _) g
    | false => rw [if_neg Bool.false_ne_true]; exact ⟨ent, w1, ρ, S1, r.later x g, q⟩⟩⟩
theorem not_bool : ∀ (d : D) (S : Sto), Res.ofOpt (notF d) S ≠ .stuck → ∃ b, d = .bl b := fun d S h => by
  cases d with
  | bl b => exact ⟨b, rfl⟩
  | _ => exact absurd rfl h
theorem dt_not (ha : DT X W O a fa) : DT X W O (.UnaryOp .Not a pos) (eNot fa) :=
  ⟨(pt_not ha.pt).imp fun σ H Q ⟨ent, w, ρ, S, r, p⟩ => ⟨ent, w, ρ, S, r, p.bind not_bool fun c S1 H1 w1 x g q => by
    obtain ⟨_, e, q⟩ := q; cases e; exact q H1 w1 (.refl _ _) g⟩⟩
/-- and, or, not as values -/
theorem de_one {op} (ha : DE k X W O a fa) : DE k X W O (.BoolOp op [a] pos) fa := ⟨pe_one ha.pe⟩
theorem de_and (ha : DE .e X W O a fa) (hb : DE .e X W O (.BoolOp .And (b :: rest) pos) fb) : DE .e X W O (.BoolOp .And (a :: b :: rest) pos) (eAnd fa fb) :=
  ⟨(pe_and ha.pe hb.pe).imp fun σ H Q ⟨ent, w, ρ, S, r, p⟩ => by
    have p' := PostT.val (k := .e) (p.bindT and_bool fun c S1 H1 w1 x g q => (show (if c = true then rd X.K .e W O fb σ H1 Q else Q (.bl false) H1) by
      cases c with
      | true => rw [if_pos rfl]; exact ⟨ent, w1, ρ, S1, r.later x g, q⟩
      | false => rw [if_neg Bool.false_ne_true]; exact q _ H1 w1 (.refl _ _) g (.bl false)))
    exact ⟨ent, w, ρ, S, r, p'⟩⟩
theorem de_or (ha : DE .e X W O a fa) (hb : DE .e X W O (.BoolOp .Or (b :: rest) pos) fb) : DE .e X W O (.BoolOp .Or (a :: b :: rest) pos) (eOr fa fb) :=
  ⟨(pe_or ha.pe hb.pe).imp fun σ H Q ⟨ent, w, ρ, S, r, p⟩ => by
    have p' := PostT.val (k := .e) (p.bindT or_bool fun c S1 H1 w1 x g q => (show (if c = true then Q (.bl true) H1 else rd X.K .e W O fb σ H1 Q) by
      cases c with
      | true => rw [if_pos rfl]; exact q _ H1 w1 (.refl _ _) g (.bl true)
      | false => rw [if_neg Bool.false_ne_true]; exact ⟨ent, w1, ρ, S1, r.later x g, q⟩))
    exact ⟨ent, w, ρ, S, r, p'⟩⟩
theorem de_not (ha : DE .e X W O a fa) : DE .e X W O (.UnaryOp .Not a pos) (eNot fa) :=
  ⟨(pe_not ha.pe).imp fun σ H Q ⟨ent, w, ρ, S, r, p⟩ => by
    have p' := PostT.val (k := .e) (p.bindT not_bool fun c S1 H1 w1 x g q => (show Q (.bl (!c)) H1 from q _ H1 w1 (.refl _ _) g (.bl _)))
    exact ⟨ent, w, ρ, S, r, p'⟩⟩
theorem de_ifx {c : Expr} (hc : DT X W O c fc) (ha : DE k X W O a fa) (hb : DE k X W O b fb) : DE k X W O (.IfExp c a b pos) (eIf fc fa fb) :=
  ⟨(pe_ifExp hc.pt ha.pe hb.pe).imp fun σ H Q ⟨ent, w, ρ, S, r, p⟩ => ⟨ent, w, ρ, S, r, p.bindT if_bool fun c S1 H1 w1 x g q => by
    cases c with
    | true => rw [if_pos rfl]; exact ⟨ent, w1, ρ, S1, r.later x g, q⟩
    | false => rw [if_neg Bool.false_ne_true]; exact ⟨ent, w1, ρ, S1, r.later x g, q⟩⟩⟩
/-- x is None -/
def isNonF : D → Option D
  | .non => some (.bl true)
  | _ => some (.bl false)
def notNonF : D → Option D
  | .non => some (.bl false)
  | _ => some (.bl true)
theorem KP.non {K : PySem.W.Frag} {H H' : Hp} {w' : Wit} {d : D} {v : V} {k : Kd} (h0 : KP K k H w' H' d v) : decide (v = .non) = (match d with | .non => true | _ => false) := by
  rcases (h0.b : KP K .b H w' H' d v) with h | ⟨a, rfl, h⟩
  · cases h <;> rfl
  · cases d with
    | lst _ => rfl
    | dct _ => rfl
    | dtt _ => rfl
    | _ => exact h.2.2.elim
def eIsN (fa : EF) : EF := fun ρ S => (fa ρ S).bind fun x S1 => .ofOpt (isNonF x) S1
def eNotN (fa : EF) : EF := fun ρ S => (fa ρ S).bind fun x S1 => .ofOpt (notNonF x) S1
theorem isN_of {K : PySem.W.Frag} : ∀ σ H Q, rd K .e W O (eIsN fa) σ H Q → tIsN (rd K k W O fa) σ H Q := by
  rintro σ H Q ⟨ent, w, ρ, S, r, p⟩
  refine ⟨ent, w, ρ, S, r, p.bind fun d S1 v H1 w1 x g1 z p1 => ?_⟩
  rw [z.non]
  cases d <;> exact p1 _ H1 w1 (.refl _ _) g1 (.bl _)
theorem notN_of {K : PySem.W.Frag} : ∀ σ H Q, rd K .e W O (eNotN fa) σ H Q → tNotN (rd K k W O fa) σ H Q := by
  rintro σ H Q ⟨ent, w, ρ, S, r, p⟩
  refine ⟨ent, w, ρ, S, r, p.bind fun d S1 v H1 w1 x g1 z p1 => ?_⟩
  rw [z.non]
  cases d <;> exact p1 _ H1 w1 (.refl _ _) g1 (.bl _)
theorem de_isN {j pos'} (ha : DE k X W O a fa) : DE .e X W O (.Compare a [.Is] [.Constant .none j pos'] pos) (eIsN fa) := ⟨(pe_cmp (pc_isN ha.pe)).imp isN_of⟩
theorem de_notN {j pos'} (ha : DE k X W O a fa) : DE .e X W O (.Compare a [.IsNot] [.Constant .none j pos'] pos) (eNotN fa) := ⟨(pe_cmp (pc_notN ha.pe)).imp notN_of⟩
theorem dt_isN {j pos'} (ha : DE k X W O a fa) : DT X W O (.Compare a [.Is] [.Constant .none j pos'] pos) (eIsN fa) := ⟨(pt_cmp (pc_isN ha.pe)).imp fun σ H Q h => isN_of σ H _ (rdT_val (k := .e) σ H Q h)⟩
theorem dt_notN {j pos'} (ha : DE k X W O a fa) : DT X W O (.Compare a [.IsNot] [.Constant .none j pos'] pos) (eNotN fa) := ⟨(pt_cmp (pc_notN ha.pe)).imp fun σ H Q h => notN_of σ H _ (rdT_val (k := .e) σ H Q h)⟩
/-- a op b op' c -/
def eChain (g g' : D → D → Option D) (fa fb fc : EF) : EF := fun ρ S => (fa ρ S).bind fun x S1 => (fb ρ S1).bind fun y S2 => (Res.ofOpt (g (deref S2 x) (deref S2 y)) S2).bind fun t S3 => match t with
  | .bl true => (fc ρ S3).bind fun z S4 => .ofOpt (g' (deref S4 y) (deref S4 z)) S4
  | .bl false => .ok (.bl false) S3
  | _ => .stuck
theorem chain_of {K : PySem.W.Frag} {g g' : D → D → Option D} {kc : Kd} : ∀ σ H Q, rd K .e W O (eChain g g' fa fb fc) σ H Q → tChain (r2 K .e g) (r2 K .e g') (rd K ka W O fa) (rd K kb W O fb) (rd K kc W O fc) σ H Q := by
  rintro σ H Q ⟨ent, w, ρ, S, r, p⟩
  refine ⟨ent, w, ρ, S, r, p.bind fun d S1 v H1 w1 x g1 z p1 => ?_⟩
  refine ⟨ent, w1, ρ, S1, r.later x g1, p1.bind fun d2 S2 v2 H2 w2 x2 g2 z2 p2 => ?_⟩
  cases e : g (deref S2 d) (deref S2 d2) with
  | none => rw [e] at p2; exact p2.elim
  | some d' =>
    rw [e] at p2
    refine ⟨w2, S2, d, d2, d', g2, z.ext x2, z2.ext (.refl _ _), e, fun v3 H3 w3 x3 g3 z3 => ?_⟩
    cases d' with
    | bl t =>
      refine ⟨t, KP.bool (k := .e) z3, ?_⟩
      cases t with
      | false => rw [if_neg Bool.false_ne_true]; exact p2 _ H3 w3 x3 g3 (.bl false)
      | true =>
        rw [if_pos rfl]
        simp only [Res.ofOpt_some, Res.bind_ok] at p2
        refine ⟨ent, w3, ρ, S2, r.later (x.trans (x2.trans x3)) g3, (Post.later x3 p2).bind fun d4 S4 v4 H4 w4 x4 g4 z4 p4 => ?_⟩
        cases e' : g' (deref S4 d2) (deref S4 d4) with
        | none => rw [e'] at p4; exact p4.elim
        | some d5 => rw [e'] at p4; exact ⟨w4, S4, d2, d4, d5, g4, z2.ext (x3.trans x4), z4.ext (.refl _ _), e', p4⟩
    | _ => exact p2.elim
theorem de_chain {op op' : CmpOp} {g g' : D → D → Option D} {c : Expr} {kc : Kd} (ho : OpR X (compareOp op) (r2 X.K .e g)) (ho' : OpR X (compareOp op') (r2 X.K .e g')) (ha : DE ka X W O a fa) (hb : DE kb X W O b fb) (hc : DE kc X W O c fc)
    (hm : lastMarks [op, op'] [b, c] = false := by with_unfolding_all rfl) : DE .e X W O (.Compare a [op, op'] [b, c] pos) (eChain g g' fa fb fc) := ⟨(pe_chain ho ho' ha.pe hb.pe hc.pe hm).imp chain_of⟩
theorem dt_chain {op op' : CmpOp} {g g' : D → D → Option D} {c : Expr} {kc : Kd} (ho : OpR X (compareOp op) (r2 X.K .e g)) (ho' : OpR X (compareOp op') (r2 X.K .e g')) (ha : DE ka X W O a fa) (hb : DE kb X W O b fb) (hc : DE kc X W O c fc)
    (hm : lastMarks [op, op'] [b, c] = false := by with_unfolding_all rfl) : DT X W O (.Compare a [op, op'] [b, c] pos) (eChain g g' fa fb fc) := ⟨(pt_chain ho ho' ha.pe hb.pe hc.pe hm).imp fun σ H Q h => chain_of σ H _ (rdT_val (k := .e) σ H Q h)⟩
end

/-! ### statements -/
theorem R.known {K : PySem.W.Frag} {Z : Option XC} {ent : Ent Z} {O : List Nat} {w : Wit} {H : Hp} {σ : L2.St} {ρ : DEnv} {S : Sto} (r : R K ent O w H σ ρ S) : R K (⟨ent.w, ent.H, w⟩ : Ent Z) O w H σ ρ S := ⟨r.gd, r.ext, .refl _, r.val, r.own, r.dis, r.len, r.exc⟩
theorem R.unknown {K : PySem.W.Frag} {Z : Option XC} {ent : Ent Z} {k : Wit} {O : List Nat} {w : Wit} {H : Hp} {σ : L2.St} {ρ : DEnv} {S : Sto} (r : R K (⟨ent.w, ent.H, k⟩ : Ent Z) O w H σ ρ S) (l : Le ent.k k) : R K ent O w H σ ρ S := ⟨r.gd, r.ext, l.trans r.kn, r.val, r.own, r.dis, r.len, r.exc⟩
structure Lp where
  ct : List Nat
  bk : List Nat
def SPost (K : PySem.W.Frag) {Z : Option XC} (ent : Ent Z) (L : Lp) (W : WZ) (O' : List Nat) (r : SRes) (En : Ends) : Prop := match r with
  | .nx ρ S => ∀ w H σ, R K ent O' w H σ ρ S → En.nx σ H
  | .rt d S => ∀ v H w, Ext ent.w ent.H w H → Gd K w H S → Rep K w d v → En.rt v H
  | .bk ρ S => ∀ w H σ, R K ent L.bk w H σ ρ S → En.bk σ H
  | .ct ρ S => ∀ w H σ, R K ent L.ct w H σ ρ S → En.ct σ H
  | .exn x ρ S => ∀ w H σ cls dx, R K ent [] w H σ ρ S → RepX K w H x cls dx → W.wx cls dx σ H
  | .stuck => False
def rdS (K : PySem.W.Frag) (L : Lp) (W : WZ) (O O' : List Nat) (f : SF) : TS := fun D σ H => ∃ (ent : Ent W.xc) (w : Wit) (ρ : DEnv) (S : Sto), R K ent O w H σ ρ S ∧ SPost K ent L W O' (f ρ S) D
structure DS (X : Cx) (W : WZ) (L : Lp) (O : List Nat) (st : Stmt) (O' : List Nat) (f : SF) : Prop where
  ps : PS X st (rdS X.K L W O O' f)
structure DSs (X : Cx) (W : WZ) (L : Lp) (O : List Nat) (st : List Stmt) (O' : List Nat) (f : SF) : Prop where
  ps : PSs X st (rdS X.K L W O O' f)
def sNext : SF := fun ρ S => .nx ρ S
def sSeq (f g : SF) : SF := fun ρ S => match f ρ S with
  | .nx ρ1 S1 => g ρ1 S1
  | r => r
/-- a def's exception out of an expression -/
theorem exn_of {K : PySem.W.Frag} {Z : Option XC} {ent : Ent Z} {O : List Nat} {w : Wit} {H : Hp} {W : WZ} {σ : L2.St} {ρ : DEnv} {S S' : Sto} {x : D} {L : Lp} {O' : List Nat} {En : Ends} (r : R K ent O w H σ ρ S) (p : SPost K ent L W O' (.exn x ρ S') En) :
    ∀ cls dx H' w', Ext w H w' H' → Gd K w' H' S' → RepX K w' H' x cls dx → W.wx cls dx σ H' := fun cls dx H' w' y g h => by
  obtain ⟨w2, l2, r2⟩ := (r.later y g).weak [] (by simp)
  exact p w2 H' σ cls dx r2 (h.mono l2)
section
variable {X : Cx} {W : WZ} {L : Lp} {O O1 O2 O' : List Nat} {st : Stmt} {rest : List Stmt} {f g : SF}
theorem dss_nil : DSs X W L O [] O sNext := ⟨pss_nil.imp fun D σ H ⟨ent, w, ρ, S, r, p⟩ => p w H σ r⟩
theorem seq_of {K : PySem.W.Frag} : ∀ D σ H, rdS K L W O O2 (sSeq f g) D σ H → tSeq (rdS K L W O O1 f) (rdS K L W O1 O2 g) D σ H := by
  rintro D σ H ⟨ent, w, ρ, S, r, p⟩
  refine ⟨ent, w, ρ, S, r, ?_⟩
  unfold sSeq at p
  cases e : f ρ S with
  | nx ρ1 S1 => rw [e] at p; exact fun w1 H1 σ1 r1 => ⟨ent, w1, ρ1, S1, r1, p⟩
  | rt d S1 => rw [e] at p; exact p
  | bk ρ1 S1 => rw [e] at p; exact p
  | ct ρ1 S1 => rw [e] at p; exact p
  | exn x ρ1 S1 => rw [e] at p; exact p
  | stuck => rw [e] at p; exact p
theorem dss_cons (h1 : DS X W L O st O1 f) (h2 : DSs X W L O1 rest O2 g) : DSs X W L O (st :: rest) O2 (sSeq f g) := ⟨(pss_cons h1.ps h2.ps).imp seq_of⟩
theorem dss_one (h1 : DS X W L O st O1 f) : DSs X W L O [st] O1 f := ⟨pss_one h1.ps⟩
/-- own lists given away ahead of a statement -/
theorem DS.pre (h : DS X W L O1 st O' f) (hs : ∀ i, i ∈ O1 → i ∈ O := by decide) : DS X W L O st O' f := ⟨h.ps.imp fun D σ H ⟨ent, w, ρ, S, r, p⟩ => let ⟨w', _, r'⟩ := r.weak O1 hs; ⟨ent, w', ρ, S, r', p⟩⟩
theorem DSs.pre (h : DSs X W L O1 rest O' f) (hs : ∀ i, i ∈ O1 → i ∈ O := by decide) : DSs X W L O rest O' f := ⟨h.ps.imp fun D σ H ⟨ent, w, ρ, S, r, p⟩ => let ⟨w', _, r'⟩ := r.weak O1 hs; ⟨ent, w', ρ, S, r', p⟩⟩
theorem SPost.post {K : PySem.W.Frag} {Z : Option XC} {ent : Ent Z} {r : SRes} {En : Ends} (hs : ∀ i, i ∈ O' → i ∈ O1) (p : SPost K ent L W O' r En) : SPost K ent L W O1 r En := by
  cases r with
  | nx ρ S => intro w H σ r; obtain ⟨w', _, r'⟩ := r.weak O' hs; exact p w' H σ r'
  | rt d S1 => exact p
  | bk ρ1 S1 => exact p
  | ct ρ1 S1 => exact p
  | exn x ρ1 S1 => exact p
  | stuck => exact p
theorem DSs.post (h : DSs X W L O rest O1 f) (hs : ∀ i, i ∈ O' → i ∈ O1 := by decide) : DSs X W L O rest O' f := ⟨h.ps.imp fun D σ H ⟨ent, w, ρ, S, r, p⟩ => ⟨ent, w, ρ, S, r, p.post hs⟩⟩
theorem DS.post (h : DS X W L O st O1 f) (hs : ∀ i, i ∈ O' → i ∈ O1 := by decide) : DS X W L O st O' f := ⟨h.ps.imp fun D σ H ⟨ent, w, ρ, S, r, p⟩ => ⟨ent, w, ρ, S, r, p.post hs⟩⟩
def sPass : SF := fun ρ S => .nx ρ S
def sBreak : SF := fun ρ S => .bk ρ S
def sCont : SF := fun ρ S => .ct ρ S
theorem ds_pass {pos : Pos} : DS X W L O (.Pass pos) O sPass := ⟨ps_pass.imp fun D σ H ⟨ent, w, ρ, S, r, p⟩ => p w H σ r⟩
theorem ds_break {pos : Pos} (hb : ∀ i, i ∈ L.bk → i ∈ O := by decide) : DS X W L O (.Break pos) O' sBreak := ⟨ps_break.imp fun D σ H ⟨ent, w, ρ, S, r, p⟩ => let ⟨w', _, r'⟩ := r.weak L.bk hb; p w' H σ r'⟩
theorem ds_cont {pos : Pos} (hb : ∀ i, i ∈ L.ct → i ∈ O := by decide) : DS X W L O (.Continue pos) O' sCont := ⟨ps_continue.imp fun D σ H ⟨ent, w, ρ, S, r, p⟩ => let ⟨w', _, r'⟩ := r.weak L.ct hb; p w' H σ r'⟩
theorem ds_doc {x j pos pos'} : DS X W L O (.Expr (.Constant (.str x) j pos) pos') O sPass := ⟨ps_doc.imp fun D σ H ⟨ent, w, ρ, S, r, p⟩ => p w H σ r⟩
/-- code that is not reached -/
def sNever : SF := fun _ _ => .stuck
theorem ds_never : DS X W L O st O' sNever := ⟨ps_never.imp fun D σ H ⟨ent, w, ρ, S, r, p⟩ => p⟩
theorem dss_never : DSs X W L O rest O' sNever := ⟨pss_never.imp fun D σ H ⟨ent, w, ρ, S, r, p⟩ => p⟩
end
/-- what comes of an expression's value -/
def sBind (r : Res) (ρ : DEnv) (k : D → Sto → SRes) : SRes := match r with
  | .ok d S => k d S
  | .exn x S => .exn x ρ S
  | .stuck => .stuck
theorem SPost.bind {K : PySem.W.Frag} {Z : Option XC} {ent : Ent Z} {O O' : List Nat} {w : Wit} {H : Hp} {W : WZ} {σ : L2.St} {ρ : DEnv} {S : Sto} {L : Lp} {En : Ends} {re : Res} {c : D → Sto → SRes} {k : Kd} {Q : VK} (r : R K ent O w H σ ρ S)
    (p : SPost K ent L W O' (sBind re ρ c) En) (h : ∀ d S1 v H1 w1, Ext w H w1 H1 → Gd K w1 H1 S1 → KP K k H w1 H1 d v → SPost K ent L W O' (c d S1) En → Q v H1) : Post K k w H W σ re Q := by
  cases re with
  | ok d S1 => exact fun v H1 w1 x g z => h d S1 v H1 w1 x g z p
  | exn x S1 => exact exn_of r p
  | stuck => exact p
theorem SPost.bindT {K : PySem.W.Frag} {Z : Option XC} {ent : Ent Z} {O O' : List Nat} {w : Wit} {H : Hp} {W : WZ} {σ : L2.St} {ρ : DEnv} {S : Sto} {L : Lp} {En : Ends} {re : Res} {c : D → Sto → SRes} {Q : Bool → Hp → Prop} (r : R K ent O w H σ ρ S)
    (p : SPost K ent L W O' (sBind re ρ c) En) (hs : ∀ d S, c d S ≠ .stuck → ∃ b, d = .bl b) (h : ∀ b S1 H1 w1, Ext w H w1 H1 → Gd K w1 H1 S1 → SPost K ent L W O' (c (.bl b) S1) En → Q b H1) : PostT K w H W σ re Q := by
  cases re with
  | ok d S1 =>
    have hn : c d S1 ≠ .stuck := fun q => by
      have p' : SPost K ent L W O' (c d S1) En := p
      rw [q] at p'; exact p'
    obtain ⟨b, rfl⟩ := hs d S1 hn
    exact ⟨b, rfl, fun H1 w1 x g => h b S1 H1 w1 x g p⟩
  | exn x S1 => exact exn_of r p
  | stuck => exact p
def sRet (f : EF) : SF := fun ρ S => sBind (f ρ S) ρ fun d S1 => .rt d S1
def sRetN : SF := fun ρ S => .rt .non S
def sExpr (f : EF) : SF := fun ρ S => sBind (f ρ S) ρ fun _ S1 => .nx ρ S1
def sSet (i : Nat) (f : EF) : SF := fun ρ S => sBind (f ρ S) ρ fun d S1 => .nx (ρ.set i (some d)) S1
def sIf (c : EF) (f g : SF) : SF := fun ρ S => sBind (c ρ S) ρ fun d S1 => match d with
  | .bl true => f ρ S1
  | .bl false => g ρ S1
  | _ => .stuck
section
variable {X : Cx} {W : WZ} {L : Lp} {O O1 O2 O' : List Nat} {e c : Expr} {fe fc : EF} {f g : SF} {pos : Pos} {k : Kd}
theorem ds_ret (he : DE .e X W O e fe) : DS X W L O (.Return (some e) pos) O' (sRet fe) :=
  ⟨(ps_ret he.pe).imp fun D σ H ⟨ent, w, ρ, S, r, p⟩ => ⟨ent, w, ρ, S, r, SPost.bind r p fun d S1 v H1 w1 x g1 z q => q v H1 w1 (r.ext.trans x) g1 z⟩⟩
theorem ds_retN : DS X W L O (.Return none pos) O' sRetN := ⟨ps_retN.imp fun D σ H ⟨ent, w, ρ, S, r, p⟩ => p .non H w r.ext r.gd .non⟩
theorem ds_expr (he : DE k X W O e fe) (hs : swapsWith e none pos.line X.env = pure false := by rfl) : DS X W L O (.Expr e pos) O (sExpr fe) :=
  ⟨(ps_expr he.pe hs).imp fun D σ H ⟨ent, w, ρ, S, r, p⟩ => ⟨ent, w, ρ, S, r, SPost.bind r p fun d S1 v H1 w1 x g1 z q => q w1 H1 σ (r.later x g1)⟩⟩
/-- name = value -/
theorem set_of {K : PySem.W.Frag} {i : Nat} (hO : i ∉ O) : ∀ D σ H, rdS K L W O O (sSet i fe) D σ H → tAsg (rd K .e W O fe) (gName i) D σ H :=
  fun D σ H ⟨ent, w, ρ, S, r, p⟩ => ⟨ent, w, ρ, S, r, SPost.bind r p fun d S1 v H1 w1 x g1 z q => q w1 H1 _ ((r.later x g1).put hO z)⟩
/-- name = a new list, which is the def's own -/
theorem setOwn_of {K : PySem.W.Frag} {i : Nat} (hO : i ∉ O) : ∀ D σ H, rdS K L W O (i :: O) (sSet i fe) D σ H → tAsg (rd K .f W O fe) (gName i) D σ H := by
  rintro D σ H ⟨ent, w, ρ, S, r, p⟩
  refine ⟨ent, w, ρ, S, r, SPost.bind r p ?_⟩
  rintro d S1 v H1 w1 x g1 ⟨a, rfl, n, o⟩ q
  refine q w1 H1 _ ((r.later x g1).putOwn o ?_ fun j hj _ ⟨ej, he⟩ hs => ?_)
  · cases z : ent.H a with
    | none => rfl
    | some u => exact absurd n (r.ext.there a (by rw [z]; simp))
  · obtain ⟨b, s1, s2, _⟩ := r.own j ej he hj
    rw [hs] at s1; cases s1
    exact s2.there n
theorem ds_set (i : Nat) {x : Str} {pos' : Pos} (he : DE .e X W O e fe) (hN : X.N.Nodup) (hO : i ∉ O := by decide) (hi : X.N[i]? = some x := by rfl) (hx : Loc X.env.scope x := by first | exact Or.inl rfl | exact Or.inr rfl) (hs : swapsWith e (some (.Name x pos')) pos.line X.env = pure false := by rfl) (hf : X.fn x = true ∨ X.env.scope.names.lookup x = some .local := by first | exact .inl rfl | exact .inr rfl | assumption) :
    DS X W L O (.Assign [.Name x pos'] e pos) O (sSet i fe) := ⟨(ps_set hN hi hx he.pe hs hf).imp (set_of hO)⟩
theorem ds_own (i : Nat) {x : Str} {pos' : Pos} (he : DE .f X W O e fe) (hN : X.N.Nodup) (hO : i ∉ O := by decide) (hi : X.N[i]? = some x := by rfl) (hx : Loc X.env.scope x := by first | exact Or.inl rfl | exact Or.inr rfl) (hs : swapsWith e (some (.Name x pos')) pos.line X.env = pure false := by rfl) (hf : X.fn x = true ∨ X.env.scope.names.lookup x = some .local := by first | exact .inl rfl | exact .inr rfl | assumption) :
    DS X W L O (.Assign [.Name x pos'] e pos) (i :: O) (sSet i fe) := ⟨(ps_set hN hi hx he.pe hs hf).imp (setOwn_of hO)⟩
theorem ifs_bool {f g : SF} {ρ : DEnv} : ∀ (d : D) (S : Sto), (match d with | .bl true => f ρ S | .bl false => g ρ S | _ => SRes.stuck) ≠ SRes.stuck → ∃ b, d = .bl b := fun d S h => by
  cases d with
  | bl b => exact ⟨b, rfl⟩
  | _ => exact absurd rfl h
theorem ds_if {a b : List Stmt} (hc : DT X W O c fc) (ha : DSs X W L O a O' f) (hb : DSs X W L O b O' g) : DS X W L O (.If c a b pos) O' (sIf fc f g) :=
  ⟨(ps_if hc.pt ha.ps hb.ps).imp fun D σ H ⟨ent, w, ρ, S, r, p⟩ => ⟨ent, w, ρ, S, r, SPost.bindT r p ifs_bool fun b S1 H1 w1 x g1 q => by
    cases b with
    | true => rw [if_pos rfl]; exact ⟨ent, w1, ρ, S1, r.later x g1, q⟩
    | false => rw [if_neg Bool.false_ne_true]; exact ⟨ent, w1, ρ, S1, r.later x g1, q⟩⟩⟩
end

/-! ### targets -/
abbrev GF := D → DEnv → Option DEnv
structure GOk (K : PySem.W.Frag) (O : List Nat) (f : GF) (t : TG) : Prop where
  env : ∀ d ρ ρ', f d ρ = some ρ' → ∀ i, i ∈ O → ρ'[i]? = ρ[i]?
  ok : ∀ {Z : Option XC} {ent : Ent Z} {w : Wit} {H : Hp} {σ : L2.St} {ρ : DEnv} {S : Sto} {d : D} {v : V} {ρ' : DEnv} {Q : L2.St → Hp → Prop}, R K ent O w H σ ρ S → Rep K w d v → f d ρ = some ρ' → (∀ σ', (∀ i, i ∈ O → σ'[i]? = σ[i]?) → R K ent O w H σ' ρ' S → Q σ' H) → t v σ H Q
structure DG (X : Cx) (O : List Nat) (tg : Expr) (f : GF) (t : TG) : Prop where
  pg : PG X tg t
  ok : GOk X.K O f t
def gtName (i : Nat) : GF := fun d ρ => some (ρ.set i (some d))
theorem gok_name {K : PySem.W.Frag} {O : List Nat} (i : Nat) (hO : i ∉ O := by decide) : GOk K O (gtName i) (gName i) := ⟨fun d ρ ρ' e j hj => by cases e; exact List.getElem?_set_ne (fun z : i = j => hO (by rw [z]; exact hj)), fun r h e q => by cases e; exact q _ (fun j hj => List.getElem?_set_ne (fun z : i = j => hO (by rw [z]; exact hj))) (r.put hO h)⟩
theorem dg_name {X : Cx} {O : List Nat} (i : Nat) {x : Str} {pos : Pos} (hN : X.N.Nodup) (hO : i ∉ O := by decide) (hi : X.N[i]? = some x := by rfl) (hx : Loc X.env.scope x := by first | exact Or.inl rfl | exact Or.inr rfl) (hf : X.fn x = true ∨ X.env.scope.names.lookup x = some .local := by first | exact .inl rfl | exact .inr rfl | assumption) :
    DG X O (.Name x pos) (gtName i) (gName i) := ⟨pg_name hN hi hx hf, gok_name i hO⟩
def gtNil : List D → DEnv → Option DEnv := fun ds ρ => match ds with
  | [] => some ρ
  | _ => none
def gtCons (f : GF) (g : List D → DEnv → Option DEnv) : List D → DEnv → Option DEnv := fun ds ρ => match ds with
  | d :: r => (f d ρ).bind fun ρ' => g r ρ'
  | [] => none
structure GOks (K : PySem.W.Frag) (O : List Nat) (n : Nat) (f : List D → DEnv → Option DEnv) (t : TGs) : Prop where
  len : ∀ ds ρ ρ', f ds ρ = some ρ' → ds.length = n
  env : ∀ ds ρ ρ', f ds ρ = some ρ' → ∀ i, i ∈ O → ρ'[i]? = ρ[i]?
  ok : ∀ {Z : Option XC} {ent : Ent Z} {w : Wit} {H : Hp} {σ : L2.St} {ρ : DEnv} {S : Sto} {ds : List D} {vs : List V} {ρ' : DEnv} {Q : L2.St → Hp → Prop}, R K ent O w H σ ρ S → Reps K w ds vs → f ds ρ = some ρ' → (∀ σ', (∀ i, i ∈ O → σ'[i]? = σ[i]?) → R K ent O w H σ' ρ' S → Q σ' H) → t vs σ H Q
structure DGs (X : Cx) (O : List Nat) (tgs : List Expr) (f : List D → DEnv → Option DEnv) (t : TGs) : Prop where
  pg : PGs X tgs t
  ok : GOks X.K O tgs.length f t
theorem gtNil_len : ∀ (ds : List D) (ρ ρ' : DEnv), gtNil ds ρ = some ρ' → ds.length = 0 := fun ds ρ ρ' e => by
  cases ds with
  | nil => rfl
  | cons a b => cases (show (none : Option DEnv) = some ρ' from e)
theorem gtCons_some {f : GF} {g : List D → DEnv → Option DEnv} {ds : List D} {ρ ρ' : DEnv} (e : gtCons f g ds ρ = some ρ') : ∃ d r ρ1, ds = d :: r ∧ f d ρ = some ρ1 ∧ g r ρ1 = some ρ' := by
  cases ds with
  | nil => cases (show (none : Option DEnv) = some ρ' from e)
  | cons a b =>
    have e' : (f a ρ).bind (fun ρ' => g b ρ') = some ρ' := e
    cases z : f a ρ with
    | none => rw [z] at e'; cases (show (none : Option DEnv) = some ρ' from e')
    | some ρ1 => rw [z] at e'; exact ⟨a, b, ρ1, rfl, z, e'⟩
theorem goks_nil {K : PySem.W.Frag} {O : List Nat} : GOks K O 0 gtNil gNil where
  len := gtNil_len
  env := fun ds ρ ρ' e i hi => by
    cases ds with
    | nil => cases e; rfl
    | cons a b => cases (show (none : Option DEnv) = some ρ' from e)
  ok := fun {Z ent w H σ ρ S ds vs ρ' Q} r h e q => by
    cases h with
    | nil => cases e; exact ⟨rfl, q _ (fun _ _ => rfl) r⟩
    | cons h t => cases (show (none : Option DEnv) = some ρ' from e)
theorem goks_cons {K : PySem.W.Frag} {O : List Nat} {n : Nat} {f : GF} {g : List D → DEnv → Option DEnv} {t : TG} {u : TGs} (h1 : GOk K O f t) (h2 : GOks K O n g u) : GOks K O (n + 1) (gtCons f g) (gCons t u) where
  len := fun ds ρ ρ' e => by
    obtain ⟨d, r, ρ1, rfl, _, e2⟩ := gtCons_some e
    simp [h2.len _ _ _ e2]
  env := fun ds ρ ρ' e i hi => by
    obtain ⟨d, r, ρ1, rfl, e1, e2⟩ := gtCons_some e
    exact (h2.env _ _ _ e2 i hi).trans (h1.env _ _ _ e1 i hi)
  ok := fun {Z ent w H σ ρ S ds vs ρ' Q} r h e q => by
    obtain ⟨d, ds', ρ1, rfl, e1, e2⟩ := gtCons_some e
    cases h with
    | @cons d v ds vs h tt => exact ⟨v, vs, rfl, h1.ok r h e1 fun σ1 s1 r1 => h2.ok r1 tt e2 fun σ2 s2 r2 => q σ2 (fun i hi => (s2 i hi).trans (s1 i hi)) r2⟩
theorem dgs_nil {X : Cx} {O : List Nat} : DGs X O [] gtNil gNil := ⟨pgs_nil, goks_nil⟩
theorem dgs_cons {X : Cx} {O : List Nat} {e : Expr} {es : List Expr} {f : GF} {g : List D → DEnv → Option DEnv} {t : TG} {u : TGs} (h1 : DG X O e f t) (h2 : DGs X O es g u)
    (hs : (assignEach (e :: es) X.env).map (·.2) = assign e X.env :: (assignEach es X.env).map (·.2) := by rfl) : DGs X O (e :: es) (gtCons f g) (gCons t u) := ⟨pgs_cons h1.pg h2.pg hs, goks_cons h1.ok h2.ok⟩
def gtTup (g : List D → DEnv → Option DEnv) : GF := fun d ρ => match d with
  | .tup ds => g ds ρ
  | _ => none
theorem gok_tup {K : PySem.W.Frag} {O : List Nat} {n : Nat} {g : List D → DEnv → Option DEnv} {u : TGs} (h : GOks K O n g u) : GOk K O (gtTup g) (gTup K n u) where
  env := fun d ρ ρ' e i hi => by
    cases d with
    | tup ds => exact h.env ds ρ ρ' e i hi
    | _ => cases (show (none : Option DEnv) = some ρ' from e)
  ok := fun {Z ent w H σ ρ S d v ρ' Q} r k e q => by
    cases k with
    | @tup a vs ds hq rs =>
      exact ⟨a, vs, rfl, SqT.of (r.gd.sub _ _ hq), by rw [← rs.length]; exact h.len _ _ _ e, h.ok r rs e q⟩
    | _ => cases (show (none : Option DEnv) = some ρ' from e)
theorem dg_tup {X : Cx} {O : List Nat} {es : List Expr} {g : List D → DEnv → Option DEnv} {u : TGs} {j : Nat} {pos : Pos} (h : DGs X O es g u) (hc : X.calm = true := by rfl) (hn : (assignEach es X.env).length = es.length := by rfl) (hst : (assignEach es X.env).findIdx? (·.1) = none := by rfl) :
    DG X O (.Tuple es j pos) (gtTup g) (gTup X.K es.length u) := ⟨pg_tup hc h.pg hn hst, gok_tup h.ok⟩
/-- target = value, the target a tuple of names -/
def sUnp (g : GF) (f : EF) : SF := fun ρ S => sBind (f ρ S) ρ fun d S1 => match g d ρ with
  | some ρ' => .nx ρ' S1
  | none => .stuck
theorem ds_unp {X : Cx} {W : WZ} {L : Lp} {O : List Nat} {tg e : Expr} {g : GF} {t : TG} {fe : EF} {pos : Pos} (he : DE .e X W O e fe) (hg : DG X O tg g t) (hs : swapsWithSole [tg] e pos.line X.env = pure false := by rfl) (hw : swappedStores [tg] e X.env = pure none := by rfl)
    (h1 : (assignEach [tg] X.env).map (·.2) = [assign tg X.env] := by rfl) : DS X W L O (.Assign [tg] e pos) O (sUnp g fe) :=
  ⟨(ps_asg he.pe hg.pg hs hw h1).imp fun D σ H ⟨ent, w, ρ, S, r, p⟩ => ⟨ent, w, ρ, S, r, SPost.bind r p fun d S1 v H1 w1 x g1 z q => by
    cases e : g d ρ with
    | none => rw [e] at q; exact q.elim
    | some ρ' => rw [e] at q; exact hg.ok.ok (r.later x g1) z e fun σ' _ r' => q w1 H1 σ' r'⟩⟩

/-! ### loops -/
/-- the things that J yields -/
def ItOk (K : PySem.W.Frag) (w : Wit) (J : It) (ds : List D) : Prop := ∀ w' H' S' i, Le w w' → Gd K w' H' S' →
  (∀ d, ds[i]? = some d → J.go i H' ∧ ∀ x H2, J.yld i H' x H2 → ∃ w2, Ext w' H' w2 H2 ∧ Gd K w2 H2 S' ∧ Rep K w2 d x) ∧ (i = ds.length → J.stop i H')
def PostI (K : PySem.W.Frag) (w : Wit) (H : Hp) (W : WZ) (σ : L2.St) (r : Ress) (Q : It → Hp → Prop) : Prop := match r with
  | .ok ds S => ∀ J H' w', Ext w H w' H' → Gd K w' H' S → ItOk K w' J ds → ds.length ≤ sizeLine → Q J H'
  | .exn x S => ∀ cls dx H' w', Ext w H w' H' → Gd K w' H' S → RepX K w' H' x cls dx → W.wx cls dx σ H'
  | .stuck => False
abbrev IF := DEnv → Sto → Ress
def rdI (K : PySem.W.Frag) (W : WZ) (O : List Nat) (f : IF) : TI := fun σ H Q => ∃ (ent : Ent W.xc) (w : Wit) (ρ : DEnv) (S : Sto), R K ent O w H σ ρ S ∧ PostI K w H W σ (f ρ S) Q
structure DI (X : Cx) (W : WZ) (O : List Nat) (tg it : Expr) (f : IF) : Prop where
  pi : PI X tg it (rdI X.K W O f)
def forD (g : GF) (body : SF) : List D → DEnv → Sto → SRes
  | [], ρ, S => .nx ρ S
  | x :: xs, ρ, S => match g x ρ with
    | none => .stuck
    | some ρ1 => match body ρ1 S with
      | .nx ρ2 S2 => forD g body xs ρ2 S2
      | .ct ρ2 S2 => forD g body xs ρ2 S2
      | .bk ρ2 S2 => .nx ρ2 S2
      | r => r
def sFor (fi : IF) (g : GF) (body : SF) : SF := fun ρ S => match fi ρ S with
  | .ok ds S1 => forD g body ds ρ S1
  | .exn x S1 => .exn x ρ S1
  | .stuck => .stuck
theorem ds_for {X : Cx} {W : WZ} {L : Lp} {O : List Nat} {tg iter : Expr} {body : List Stmt} {fi : IF} {g : GF} {t : TG} {fb : SF} {pos : Pos} (hp : PassesOwn (model X.prog X.w) X.A X.env X.xe) (hi : DI X W O tg iter fi) (hg : DG X O tg g t) (hb : DSs X W ⟨O, O⟩ O body O fb)
    (hc : X.calm = true := by rfl) (hs : ∀ x, foldedSetIterable iter X.env x = pure x := by intro _; rfl) : DS X W L O (.For tg iter body [] pos) O (sFor fi g fb) := by
  refine ⟨(ps_for hp hc hi.pi hg.pg hb.ps hs).imp ?_⟩
  rintro D σ H ⟨ent, w, ρ, S, r, p⟩
  refine ⟨ent, w, ρ, S, r, ?_⟩
  unfold sFor at p
  cases e : fi ρ S with
  | stuck => rw [e] at p; exact p
  | exn x S1 => rw [e] at p; exact exn_of r p
  | ok ds S1 =>
    rw [e] at p
    intro J H1 w1 x1 g1 hJ hz
    refine ⟨fun i m σ H => m = ds.length - i ∧ i ≤ ds.length ∧ ∃ w ρ S, R X.K (⟨ent.w, ent.H, w1⟩ : Ent _) O w H σ ρ S ∧ SPost X.K ent L W O (forD g fb (ds.drop i) ρ S) D, ⟨ds.length, by simp, Nat.zero_le _, w1, ρ, S1, (r.later x1 g1).known, by simpa using p⟩, ?_⟩
    rintro i m σ2 H2 ⟨rfl, hi, w2, ρ2, S2, r2, p2⟩
    have l2 : Le w1 w2 := r2.kn
    have lk : Le ent.k w1 := r.kn.trans x1.le
    obtain ⟨j1, j2⟩ := hJ w2 H2 S2 i l2 r2.gd
    by_cases hlt : i < ds.length
    · obtain ⟨jg, jy⟩ := j1 ds[i] (List.getElem?_eq_getElem hlt)
      refine .inr ⟨jg, fun σ' H' => ∃ w' ρ' S', R X.K (⟨ent.w, ent.H, w1⟩ : Ent _) O w' H' σ' ρ' S' ∧ SPost X.K ent L W O (forD g fb (ds.drop (i + 1)) ρ' S') D, fun σ' H' ⟨w', ρ', S', r', p'⟩ => ⟨ds.length - (i + 1), by omega, rfl, hlt, w', ρ', S', r', p'⟩, fun x H3 y => ?_⟩
      obtain ⟨w3, x3, g3, z3⟩ := jy x H3 y
      rw [List.drop_eq_getElem_cons hlt] at p2
      unfold forD at p2
      cases e2 : g ds[i] ρ2 with
      | none => rw [e2] at p2; exact p2.elim
      | some ρ3 =>
        rw [e2] at p2
        dsimp only at p2
        refine hg.ok.ok (r2.later x3 g3) z3 e2 fun σ3 _ r3 => ⟨(⟨ent.w, ent.H, w1⟩ : Ent _), w3, ρ3, S2, r3, ?_⟩
        cases e3 : fb ρ3 S2 with
        | nx ρ4 S4 => rw [e3] at p2; exact fun w4 H4 σ4 r4 => ⟨w4, ρ4, S4, r4, p2⟩
        | ct ρ4 S4 => rw [e3] at p2; exact fun w4 H4 σ4 r4 => ⟨w4, ρ4, S4, r4, p2⟩
        | bk ρ4 S4 => rw [e3] at p2; exact fun w4 H4 σ4 r4 => p2 w4 H4 σ4 (r4.unknown lk)
        | rt d S4 => rw [e3] at p2; exact p2
        | exn x ρ4 S4 => rw [e3] at p2; exact fun w4 H4 σ4 cls dx r4 h4 => p2 w4 H4 σ4 cls dx (r4.unknown lk) h4
        | stuck => rw [e3] at p2; exact p2
    · have ei : i = ds.length := by omega
      subst ei
      refine .inl ⟨j2 rfl, ?_⟩
      rw [List.drop_length] at p2
      exact p2 w2 H2 σ2 (r2.unknown lk)
end DL

/-! what is walked; comprehensions; while; defs and their calls -/
namespace DL
open PySem PySem.Spec PyProof.Rows L2

/-- the list is long enough for nobody -/
def LIM : Nat := 1000000
theorem lim_size {n : Nat} (h : n < LIM) : n < sizeLine := Nat.lt_trans h (by decide)

/-! ### what is walked -/
def iSeq (f : EF) : IF := fun ρ S => match f ρ S with
  | .ok d S1 => (match d with
    | .lst ds => .ok ds S1
    | .tup ds => .ok ds S1
    | .ctp ds => .ok ds S1
    | _ => .stuck)
  | .exn x S1 => .exn x S1
  | .stuck => .stuck
section
variable {K : PySem.W.Frag} {w : Wit} {a : Addr} {vs : List V} {ds : List D}
theorem itok_list (h : SqL K w.F a vs) (r : Reps K w ds vs) : ItOk K w (Itl K a) ds := fun w' H' S' i l g => by
  have hq : SqL K H' a vs := SqL.monoF g.sub (SqL.monoF l.F h)
  refine ⟨fun d e => ?_, fun hl => ⟨vs, hq, by rw [← r.length]; exact Nat.le_of_eq hl.symm⟩⟩
  obtain ⟨v, ev, rv⟩ := r.get e
  refine ⟨⟨vs, v, hq, ev⟩, fun x H2 y => ?_⟩
  obtain ⟨rfl, y⟩ := y
  have := y vs hq
  rw [ev] at this; cases this
  exact ⟨w', .refl _ _, g, rv.mono l⟩
theorem itok_tup (h : SqT K w.F a vs) (r : Reps K w ds vs) : ItOk K w (Itt K a) ds := fun w' H' S' i l g => by
  have hq : SqT K H' a vs := SqT.monoF g.sub (SqT.monoF l.F h)
  refine ⟨fun d e => ?_, fun hl => ⟨vs, hq, by rw [← r.length]; exact Nat.le_of_eq hl.symm⟩⟩
  obtain ⟨v, ev, rv⟩ := r.get e
  refine ⟨⟨vs, v, hq, ev⟩, fun x H2 y => ?_⟩
  obtain ⟨rfl, y⟩ := y
  have := y vs hq
  rw [ev] at this; cases this
  exact ⟨w', .refl _ _, g, rv.mono l⟩
theorem itok_range {lo : Int} {n : Nat} : ItOk K w (Itr lo n) ((List.range n).map fun (k : Nat) => D.int (lo + k)) := fun w' H' S' i l g => by
  refine ⟨fun d e => ?_, fun hl => (by simpa using Nat.le_of_eq hl.symm : n ≤ i)⟩
  have hi : i < n := by have := (List.getElem?_eq_some_iff.mp e).1; simpa using this
  refine ⟨hi, fun x H2 y => ?_⟩
  obtain ⟨rfl, rfl⟩ := y
  refine ⟨w', .refl _ _, g, ?_⟩
  rw [List.getElem?_map, List.getElem?_range hi] at e
  cases e
  exact .int _
end
section
variable {X : Cx} {W : WZ} {O : List Nat} {tg e e' : Expr} {es : List Expr} {f : EF} {fa : AF} {k : Kd}
theorem _root_.L2.PI.or {X : Cx} {tg e : Expr} {t t' : TI} (h : PI X tg e t) (h' : PI X tg e t') : PI X tg e (fun σ H R => t σ H R ∨ t' σ H R) :=
  ⟨fun pins s σ H R I q => q.elim (h.run pins s σ H R I) (h'.run pins s σ H R I)⟩
theorem di_seq (he : DE .e X W O e f) : DI X W O tg e (iSeq f) := by
  refine ⟨((pi_list he.pe.sz).or (pi_tup he.pe.sz)).imp ?_⟩
  rintro σ H Q ⟨ent, w, ρ, S, r, p⟩
  unfold iSeq at p
  cases e1 : f ρ S with
  | stuck => rw [e1] at p; exact p.elim
  | exn x S1 => rw [e1] at p; exact .inl ⟨ent, w, ρ, S, r, by rw [e1]; exact p⟩
  | ok d S1 =>
    rw [e1] at p
    cases d with
    | lst ds =>
      refine .inl ⟨ent, w, ρ, S, r, ?_⟩
      rw [e1]
      intro v H1 w1 x1 g1 z hz
      cases z with
      | @lst a vs ds h rr =>
        have hh := SqL.monoF g1.sub h
        exact ⟨a, rfl, ⟨vs, hh⟩, p _ H1 w1 x1 g1 (itok_list h rr) (by rw [rr.length]; exact hz a vs (.inl hh))⟩
    | tup ds =>
      refine .inr ⟨ent, w, ρ, S, r, ?_⟩
      rw [e1]
      intro v H1 w1 x1 g1 z hz
      cases z with
      | @tup a vs ds h rr =>
        have hh : SqT X.K H1 a vs := SqT.of (g1.sub _ _ h)
        exact ⟨a, rfl, ⟨vs, hh⟩, p _ H1 w1 x1 g1 (itok_tup (SqT.of h) rr) (by rw [rr.length]; exact hz a vs (.inr hh))⟩
    | ctp ds =>
      refine .inr ⟨ent, w, ρ, S, r, ?_⟩
      rw [e1]
      intro v H1 w1 x1 g1 z hz
      cases z with
      | @ctp a vs ds h rr =>
        have hh : SqT X.K H1 a vs := SqT.monoF none_le h
        exact ⟨a, rfl, ⟨vs, hh⟩, p _ H1 w1 x1 g1 (itok_tup (SqT.monoF none_le h) rr) (by rw [rr.length]; exact hz a vs (.inr hh))⟩
    | _ => exact p.elim
def dInts (lo : Int) (n : Nat) : List D := (List.range n).map fun (k : Nat) => D.int (lo + k)
def iRange1 (f : AF) : IF := fun ρ S => match f ρ S with
  | .ok [.int n] S1 => if n.toNat < LIM ∧ -(2 ^ 62) ≤ n then .ok (dInts 0 n.toNat) S1 else .stuck
  | .ok _ _ => .stuck
  | .exn x S1 => .exn x S1
  | .stuck => .stuck
def iRange2 (f : AF) : IF := fun ρ S => match f ρ S with
  | .ok [.int m, .int n] S1 => if (n - m).toNat < LIM ∧ -(2 ^ 62) ≤ m ∧ m < 2 ^ 62 ∧ -(2 ^ 62) ≤ n ∧ n < 2 ^ 62 then .ok (dInts m (n - m).toNat) S1 else .stuck
  | .ok _ _ => .stuck
  | .exn x S1 => .exn x S1
  | .stuck => .stuck
theorem dInts_len (lo : Int) {n : Nat} (h : n < LIM) : (dInts lo n).length ≤ sizeLine := by
  unfold dInts; rw [List.length_map, List.length_range]; exact Nat.le_of_lt (lim_size h)
theorem di_range1 {p pos : Pos} (ha : DA X W O [e] fa) (hm : X.mg "range" = none) (hg : Gl X "range" := by rfl) (hs : starEach [e] X.env = [(false, eval e X.env)] := by rfl) : DI X W O tg (.Call (.Name "range" p) [e] [] pos) (iRange1 fa) := by
  refine ⟨(pi_range1 hg hm ha.pa hs).imp ?_⟩
  rintro σ H Q ⟨ent, w, ρ, S, r, p⟩
  refine ⟨ent, w, ρ, S, r, ?_⟩
  unfold iRange1 at p
  cases e1 : fa ρ S with
  | stuck => rw [e1] at p; exact p
  | exn x S1 => rw [e1] at p; exact p
  | ok ds S1 =>
    rw [e1] at p
    intro vs H1 w1 x1 g1 z
    cases z with
    | nil => exact p.elim
    | @cons d v ds vs h t =>
      cases t with
      | cons _ _ => cases d <;> exact p.elim
      | nil =>
        cases h with
        | int n =>
          dsimp only at p
          split at p
          · rename_i hc
            have hl : n.toNat < 1000000 := hc.1
            refine ⟨n, rfl, hc.2, by omega, ?_⟩
            exact p _ H1 w1 x1 g1 itok_range (dInts_len 0 hc.1)
          · exact p.elim
        | _ => exact p.elim
theorem di_range2 {p pos : Pos} (ha : DA X W O [e, e'] fa) (hm : X.mg "range" = none) (hg : Gl X "range" := by rfl) (hs : starEach [e, e'] X.env = [(false, eval e X.env), (false, eval e' X.env)] := by rfl) (hs2 : starEach [e'] X.env = [(false, eval e' X.env)] := by rfl) : DI X W O tg (.Call (.Name "range" p) [e, e'] [] pos) (iRange2 fa) := by
  refine ⟨(pi_range2 hg hm ha.pa hs hs2).imp ?_⟩
  rintro σ H Q ⟨ent, w, ρ, S, r, p⟩
  refine ⟨ent, w, ρ, S, r, ?_⟩
  unfold iRange2 at p
  cases e1 : fa ρ S with
  | stuck => rw [e1] at p; exact p
  | exn x S1 => rw [e1] at p; exact p
  | ok ds S1 =>
    rw [e1] at p
    intro vs H1 w1 x1 g1 z
    cases z with
    | nil => exact p.elim
    | @cons d v ds vs h t =>
      cases t with
      | nil => cases d <;> exact p.elim
      | @cons d2 v2 ds vs h2 t =>
        cases t with
        | cons _ _ => cases d <;> cases d2 <;> exact p.elim
        | nil =>
          cases h with
          | int m =>
            cases h2 with
            | int n =>
              dsimp only at p
              split at p
              · rename_i hc
                exact ⟨m, n, rfl, ⟨hc.2.1, hc.2.2.1, hc.2.2.2.1, hc.2.2.2.2⟩, p _ H1 w1 x1 g1 itok_range (dInts_len m hc.1)⟩
              · exact p.elim
            | _ => exact p.elim
          | _ => cases d2 <;> exact p.elim
end

/-! ### comprehensions -/
def wipeD (ρ : DEnv) : List Nat → DEnv
  | [] => ρ
  | v :: vs => (wipeD ρ vs).set v none
def lcD (g : GF) (fc fe : EF) : List D → List D → DEnv → Sto → Res
  | [], acc, _, S => .ok (.lst acc) S
  | x :: xs, acc, ρ, S => match g x ρ with
    | none => .stuck
    | some ρ1 => match fc ρ1 S with
      | .ok (.bl true) S1 => (match fe ρ1 S1 with
        | .ok d S2 => lcD g fc fe xs (acc ++ [d]) ρ S2
        | _ => .stuck)
      | .ok (.bl false) S1 => lcD g fc fe xs acc ρ S1
      | _ => .stuck
def eLc (vs : List Nat) (fi : IF) (g : GF) (fc fe : EF) : EF := fun ρ S => match fi ρ S with
  | .ok ds S1 => lcD g fc fe ds [] (wipeD ρ vs) S1
  | .exn x S1 => .exn x S1
  | .stuck => .stuck
def eYes : EF := fun _ S => .ok (.bl true) S
section
variable {K : PySem.W.Frag} {Z : Option XC} {ent : Ent Z} {O : List Nat} {w w' : Wit} {H H' : Hp} {σ : L2.St} {ρ : DEnv} {S S' : Sto}
theorem R.wipe1 (r : R K ent O w H σ ρ S) (i : Nat) (hi : i ∉ O) : R K ent O w H (σ.set i none) (ρ.set i none) S where
  gd := r.gd
  ext := r.ext
  kn := r.kn
  val := fun j d e n => by
    by_cases q : i = j
    · subst q
      have hl : i < ρ.length := by have := (List.getElem?_eq_some_iff.mp e).1; simpa using this
      rw [List.getElem?_set_self hl] at e; cases e
    · rw [List.getElem?_set_ne q] at e
      obtain ⟨v, h1, h2⟩ := r.val j d e n
      exact ⟨v, by rw [List.getElem?_set_ne q]; exact h1, h2⟩
  own := fun j d e n => by
    have q : i ≠ j := fun z => hi (z ▸ n)
    rw [List.getElem?_set_ne q] at e
    obtain ⟨v, h1, h2⟩ := r.own j d e n
    exact ⟨v, by rw [List.getElem?_set_ne q]; exact h1, h2⟩
  dis := fun j k a hj hk ej ek sj sk => by
    have q1 : i ≠ j := fun z => hi (z ▸ hj)
    have q2 : i ≠ k := fun z => hi (z ▸ hk)
    rw [List.getElem?_set_ne q1] at ej sj
    rw [List.getElem?_set_ne q2] at ek sk
    exact r.dis j k a hj hk ej ek sj sk
  len := by simpa using r.len
  exc := fun z hz hj hn => by
    have q : i ≠ z.i := fun e => hi (e ▸ hj)
    rw [List.getElem?_set_ne q] at hn ⊢
    exact r.exc z hz hj hn
theorem R.wipe (r : R K ent O w H σ ρ S) : ∀ vs : List Nat, (∀ i, i ∈ vs → i ∉ O) → R K ent O w H (L2.wipe σ vs) (wipeD ρ vs) S
  | [], _ => r
  | v :: vs, h => (R.wipe r vs fun i hi => h i (List.mem_cons_of_mem _ hi)).wipe1 v (h v List.mem_cons_self)
/-- the state does not know of an own thing's change -/
theorem Gd.updO (g : Gd K w H S) {a : Addr} {o : HO} (h1 : w.F a = none) (h2 : ∀ n, n < w.m → w.phi n ≠ a) : Gd K w (upd H a o) S :=
  ⟨g.len, fun b u e => by rw [upd_ne (fun q => by rw [q, h1] at e; cases e)]; exact g.sub b u e,
    fun n u e => (g.sto n u e).mono (.refl w) fun z hz => by rw [upd_ne (h2 n (by rw [g.len]; exact (List.getElem?_eq_some_iff.mp e).1))]; exact hz, g.inj, g.nofz⟩
theorem Ext.updO {w0 : Wit} {H0 : Hp} (x : Ext w0 H0 w H) {a : Addr} {o : HO} (h : H0 a = none) : Ext w0 H0 w (upd H a o) :=
  ⟨x.le, x.new, fun b u e => (x.keep b u e).imp id fun z => by rw [upd_ne (fun q => by rw [q, h] at e; cases e)]; exact z,
    fun b hb => by rw [upd_ne (fun q : b = a => hb (by rw [q]; exact h))]; exact x.there b hb, x.fz⟩
/-- a thing that no slot holds has changed -/
theorem R.updL (r : R K ent O w H σ ρ S) {a : Addr} {o : HO} (hx : ∀ fs, H a ≠ some (.xd fs)) (h1 : w.F a = none) (h2 : ∀ n, n < w.m → w.phi n ≠ a) (he : ent.H a = none) (hn : ∀ n, n ∈ O → (∃ d, ρ[n]? = some (some d)) → σ[n]? ≠ some (some (.ref a))) : R K ent O w (L2.upd H a o) σ ρ S :=
  ⟨r.gd.updO h1 h2, r.ext.updO he, r.kn, r.val, fun i d e n => by
    obtain ⟨b, s1, s2, s3⟩ := r.own i d e n
    have ne : b ≠ a := fun z => hn i n ⟨d, e⟩ (by rw [s1, z])
    refine ⟨b, s1, ⟨s2.1, s2.2.1, ?_⟩, s3⟩
    obtain ⟨_, _, s4⟩ := s2
    cases d with
    | lst ds => obtain ⟨vs, e, r⟩ := s4; exact ⟨vs, by rw [upd_ne ne]; exact e, r⟩
    | dct ds => obtain ⟨vs, e, r⟩ := s4; exact ⟨vs, by rw [upd_ne ne]; exact e, r⟩
    | dtt ds => obtain ⟨vs, e, r⟩ := s4; exact ⟨vs, by rw [upd_ne ne]; exact e, r⟩
    | _ => exact s4.elim, r.dis, r.len, fun z hz hi hn' => by
      obtain ⟨u1, u2⟩ := r.exc z hz hi hn'
      refine ⟨u1, u2.keeps fun dd vs e => ?_⟩
      have ne : dd ≠ a := fun e' => hx vs (by rw [← e']; exact e)
      rw [upd_ne ne]
      exact e⟩
/-- the slots, later, in a heap where an own thing that no slot holds has changed -/
theorem R.side (r : R K ent O w H σ ρ S) {w1 : Wit} {H1 : Hp} {S1 : Sto} (x : Ext w H w1 H1) (g : Gd K w1 H1 S1) : R K ent O w1 H1 σ ρ S1 := r.later x g
end
/-- the target's slots are the block's own -/
def GOwn (g : GF) (vs : List Nat) : Prop := ∀ d ρ ρ', g d ρ = some ρ' → wipeD ρ' vs = wipeD ρ vs
structure TOwn (t : TG) (vs : List Nat) : Prop where
  ok : ∀ v σ H Q, t v σ H Q → t v σ H (fun σ' H' => L2.wipe σ' vs = L2.wipe σ vs ∧ Q σ' H')
theorem wipe_set (σ : L2.St) (i : Nat) (x : Option V) : ∀ vs : List Nat, i ∈ vs → L2.wipe (σ.set i x) vs = L2.wipe σ vs
  | [], h => absurd h (by simp)
  | v :: vs, h => by
    show (L2.wipe (σ.set i x) vs).set v none = (L2.wipe σ vs).set v none
    by_cases q : i ∈ vs
    · rw [wipe_set σ i x vs q]
    · have ev : i = v := (List.mem_cons.mp h).elim id fun z => absurd z q
      subst ev
      have : ∀ (us : List Nat), i ∉ us → L2.wipe (σ.set i x) us = (L2.wipe σ us).set i x := by
        intro us
        induction us with
        | nil => intro _; rfl
        | cons u us ih =>
          intro hu
          have h1 : i ≠ u := fun z => hu (by simp [z])
          show (L2.wipe (σ.set i x) us).set u none = ((L2.wipe σ us).set u none).set i x
          rw [ih fun z => hu (List.mem_cons_of_mem _ z), List.set_comm _ _ h1]
      rw [this vs q, List.set_set]
theorem wipe_get (σ : L2.St) (i : Nat) : ∀ vs : List Nat, (L2.wipe σ vs)[i]? = if i ∈ vs then (σ[i]?).map (fun _ => none) else σ[i]?
  | [] => by simp [L2.wipe]
  | v :: vs => by
    show ((L2.wipe σ vs).set v none)[i]? = _
    by_cases q : v = i
    · subst q
      rw [if_pos List.mem_cons_self, List.getElem?_set]
      by_cases hl : v < σ.length
      · rw [if_pos rfl, if_pos (by rw [L2.wipe_length]; exact hl), List.getElem?_eq_getElem hl]; rfl
      · rw [if_pos rfl, if_neg (by rw [L2.wipe_length]; exact hl), List.getElem?_eq_none (by omega)]; rfl
    · rw [List.getElem?_set_ne q, wipe_get σ i vs]
      by_cases h : i ∈ vs
      · rw [if_pos h, if_pos (List.mem_cons_of_mem _ h)]
      · rw [if_neg h, if_neg (fun z => (List.mem_cons.mp z).elim (fun y => q y.symm) h)]
theorem wipe_wipe (σ : L2.St) (vs : List Nat) : L2.wipe (L2.wipe σ vs) vs = L2.wipe σ vs := by
  apply List.ext_getElem?
  intro i
  rw [wipe_get, wipe_get]
  by_cases h : i ∈ vs
  · rw [if_pos h, if_pos h]; cases σ[i]? <;> rfl
  · rw [if_neg h]
theorem TOwn.wiped {t : TG} {vs : List Nat} (ho : TOwn t vs) {v : V} {σ : L2.St} {H : Hp} {Q : L2.St → Hp → Prop} (h : t v (L2.wipe σ vs) H Q) : t v (L2.wipe σ vs) H (fun σ' H' => L2.wipe σ' vs = L2.wipe σ vs ∧ Q σ' H') := by
  have := ho.ok _ _ _ _ h
  simpa only [wipe_wipe] using this
theorem wipeD_out {ρ : DEnv} {i : Nat} : ∀ {vs : List Nat}, i ∉ vs → (wipeD ρ vs)[i]? = ρ[i]?
  | [], _ => rfl
  | v :: vs, h => by
    show ((wipeD ρ vs).set v none)[i]? = _
    rw [List.getElem?_set_ne (fun z => h (by simp [z])), wipeD_out fun z => h (List.mem_cons_of_mem _ z)]
theorem town_name {i : Nat} {vs : List Nat} (h : i ∈ vs := by decide) : TOwn (gName i) vs := ⟨fun v σ H Q q => ⟨wipe_set σ i (some v) vs h, q⟩⟩
structure TOwns (t : TGs) (vs : List Nat) : Prop where
  ok : ∀ v σ H Q, t v σ H Q → t v σ H (fun σ' H' => L2.wipe σ' vs = L2.wipe σ vs ∧ Q σ' H')
theorem towns_nil {vs : List Nat} : TOwns gNil vs := ⟨fun v σ H Q ⟨e, q⟩ => ⟨e, rfl, q⟩⟩
theorem towns_cons {t : TG} {u : TGs} {vs : List Nat} (ht : TOwn t vs) (hu : TOwns u vs) (mono : ∀ v σ H (Q Q' : L2.St → Hp → Prop), (∀ σ' H', Q σ' H' → Q' σ' H') → t v σ H Q → t v σ H Q') (monos : ∀ v σ H (Q Q' : L2.St → Hp → Prop), (∀ σ' H', Q σ' H' → Q' σ' H') → u v σ H Q → u v σ H Q') : TOwns (gCons t u) vs :=
  ⟨fun v σ H Q ⟨x, r, e, q⟩ => ⟨x, r, e, mono _ _ _ _ _ (fun σ1 H1 ⟨h1, h2⟩ => monos _ _ _ _ _ (fun σ2 H2 ⟨h3, h4⟩ => ⟨h3.trans h1, h4⟩) (hu.ok r σ1 H1 Q h2)) (ht.ok x σ H _ q)⟩⟩
theorem mono_name {i : Nat} : ∀ v σ H (Q Q' : L2.St → Hp → Prop), (∀ σ' H', Q σ' H' → Q' σ' H') → gName i v σ H Q → gName i v σ H Q' := fun v σ H Q Q' h q => h _ _ q
theorem mono_nil : ∀ v σ H (Q Q' : L2.St → Hp → Prop), (∀ σ' H', Q σ' H' → Q' σ' H') → gNil v σ H Q → gNil v σ H Q' := fun v σ H Q Q' h ⟨e, q⟩ => ⟨e, h _ _ q⟩
theorem mono_cons {t : TG} {u : TGs} (mt : ∀ v σ H (Q Q' : L2.St → Hp → Prop), (∀ σ' H', Q σ' H' → Q' σ' H') → t v σ H Q → t v σ H Q') (mu : ∀ v σ H (Q Q' : L2.St → Hp → Prop), (∀ σ' H', Q σ' H' → Q' σ' H') → u v σ H Q → u v σ H Q') :
    ∀ v σ H (Q Q' : L2.St → Hp → Prop), (∀ σ' H', Q σ' H' → Q' σ' H') → gCons t u v σ H Q → gCons t u v σ H Q' := fun v σ H Q Q' h ⟨x, r, e, q⟩ => ⟨x, r, e, mt _ _ _ _ _ (fun σ1 H1 q1 => mu _ _ _ _ _ h q1) q⟩
theorem mono_tup {K : PySem.W.Frag} {n : Nat} {u : TGs} (mu : ∀ v σ H (Q Q' : L2.St → Hp → Prop), (∀ σ' H', Q σ' H' → Q' σ' H') → u v σ H Q → u v σ H Q') :
    ∀ v σ H (Q Q' : L2.St → Hp → Prop), (∀ σ' H', Q σ' H' → Q' σ' H') → gTup K n u v σ H Q → gTup K n u v σ H Q' := fun v σ H Q Q' h ⟨a, xs, e, q1, q2, q⟩ => ⟨a, xs, e, q1, q2, mu _ _ _ _ _ h q⟩
theorem town_tup {K : PySem.W.Frag} {n : Nat} {u : TGs} {vs : List Nat} (h : TOwns u vs) : TOwn (gTup K n u) vs := ⟨fun v σ H Q ⟨a, xs, e, q1, q2, q⟩ => ⟨a, xs, e, q1, q2, h.ok _ _ _ _ q⟩⟩

/-- the tests of a comprehension -/
structure DCs (X : Cx) (W : WZ) (O : List Nat) (ifs : List Expr) (f : EF) : Prop where
  pts : PTs X ifs (rdT X.K W.no O f)
theorem dcs_nil {X : Cx} {W : WZ} {O : List Nat} : DCs X W O [] eYes := ⟨⟨fun pins s σ H Q I h => pts_nil.run pins s σ H Q I (by
  obtain ⟨ent, w, ρ, S, r, b, e, p⟩ := h
  cases e
  exact p H w (.refl _ _) r.gd)⟩⟩
theorem dcs_one {X : Cx} {W : WZ} {O : List Nat} {c : Expr} {f : EF} (h : DT X W.no O c f) : DCs X W O [c] f := ⟨pts_one h.pt⟩

theorem lc_of {K : PySem.W.Frag} {W : WZ} {O vs : List Nat} {fi : IF} {g : GF} {t : TG} {fc fe : EF} (hgo : GOk K O g t) (ho : TOwn t vs) (hO : ∀ i, i ∈ vs → i ∉ O) :
    ∀ σ H Q, rd K .f W O (eLc vs fi g fc fe) σ H Q → tLc (rdI K W O fi) t (rdT K W.no O fc) (rd K .e W.no O fe) vs σ H Q := by
  rintro σ H Q ⟨ent, w, ρ, S, r, p⟩
  refine ⟨ent, w, ρ, S, r, ?_⟩
  unfold eLc at p
  cases e1 : fi ρ S with
  | stuck => rw [e1] at p; exact p
  | exn x S1 => rw [e1] at p; exact p
  | ok ds S1 =>
    rw [e1] at p
    intro J H1 w1 x1 g1 hJ hz L hL
    have r1 := (r.later x1 g1).wipe vs hO
    -- the invariant: the list so far stands at L
    refine ⟨fun i m H => m = ds.length - i ∧ i ≤ ds.length ∧ ∃ w2 acc S2, Ext w1 H1 w2 H ∧ Gd K w2 H S2 ∧ Own K w2 H (.lst acc) L ∧ acc.length ≤ i ∧ Post K .f w1 H1 W σ (lcD g fc fe (ds.drop i) acc (wipeD ρ vs) S2) Q, ⟨ds.length, by simp, Nat.zero_le _, w1, [], S1, Ext.newO w1 hL, g1.newO hL, ⟨g1.noneF hL, g1.nophi hL, [], upd_same, .nil⟩, Nat.le_refl _, by simpa using Post.later (r := lcD g fc fe ds [] (wipeD ρ vs) S1) x1 p⟩, ?_⟩
    rintro i m H2 ⟨rfl, hi, w2, acc, S2, x2, g2, o2, hl2, p2⟩
    obtain ⟨j1, j2⟩ := hJ w2 H2 S2 i x2.le g2
    by_cases hlt : i < ds.length
    · obtain ⟨jg, jy⟩ := j1 ds[i] (List.getElem?_eq_getElem hlt)
      refine .inr ⟨jg, fun H' => ∃ w' acc' S', Ext w1 H1 w' H' ∧ Gd K w' H' S' ∧ Own K w' H' (.lst acc') L ∧ acc'.length ≤ i + 1 ∧ Post K .f w1 H1 W σ (lcD g fc fe (ds.drop (i + 1)) acc' (wipeD ρ vs) S') Q,
        fun H' ⟨w', acc', S', q1, q2, q3, q4, q5⟩ => ⟨ds.length - (i + 1), by omega, rfl, hlt, w', acc', S', q1, q2, q3, q4, q5⟩, fun x H3 y => ?_⟩
      obtain ⟨w3, x3, g3, z3⟩ := jy x H3 y
      rw [List.drop_eq_getElem_cons hlt] at p2
      unfold lcD at p2
      have r3 : R K ent O w3 H3 (L2.wipe σ vs) (wipeD ρ vs) S2 := r1.later (x2.trans x3) g3
      cases e2 : g ds[i] (wipeD ρ vs) with
      | none => rw [e2] at p2; exact p2.elim
      | some ρ3 =>
        rw [e2] at p2
        dsimp only at p2
        refine ho.wiped (hgo.ok r3 z3 e2 fun σ3 s3' r3' => ?_)
        refine ⟨ent, w3, ρ3, S2, r3', ?_⟩
        have o3 : Own K w3 H3 (.lst acc) L := o2.ext x3
        cases e3 : fc ρ3 S2 with
        | stuck => rw [e3] at p2; exact p2.elim
        | exn y S3 => rw [e3] at p2; exact p2.elim
        | ok c S3 =>
          rw [e3] at p2
          cases c with
          | bl b =>
            refine ⟨b, rfl, fun H4 w4 x4 g4 => ?_⟩
            cases b with
            | false =>
              rw [if_neg Bool.false_ne_true]
              exact ⟨w4, acc, S3, x2.trans (x3.trans x4), g4, o3.ext x4, Nat.le_succ_of_le hl2, p2⟩
            | true =>
              rw [if_pos rfl]
              dsimp only at p2
              refine ⟨ent, w4, ρ3, S3, r3'.later x4 g4, ?_⟩
              cases e4 : fe ρ3 S3 with
              | stuck => rw [e4] at p2; exact p2.elim
              | exn y S4 => rw [e4] at p2; exact p2.elim
              | ok d S4 =>
                rw [e4] at p2
                intro v H5 w5 x5 g5 z5
                have o5 : Own K w5 H5 (.lst acc) L := (o3.ext x4).ext x5
                obtain ⟨f1, f2, us, f3, f4⟩ := o5
                refine ⟨us, f3, ?_, w5, acc ++ [d], S4, (x2.trans (x3.trans (x4.trans x5))).updO hL, g5.updO f1 f2, ⟨f1, f2, _, upd_same, f4.append (.cons z5 .nil)⟩, by simp; omega, p2⟩
                rw [← f4.length]; omega
          | _ => exact p2.elim
    · have ei : i = ds.length := by omega
      subst ei
      refine .inl ⟨j2 rfl, ?_⟩
      rw [List.drop_length] at p2
      exact p2 _ H2 w2 x2 g2 ⟨L, rfl, hL, o2⟩
section
variable {X : Cx} {W : WZ} {O : List Nat} {elt tg iter : Expr} {ifs : List Expr} {scope : Scope} {own : List (Str × Nat)} {pos : Pos} {fi : IF} {g : GF} {t : TG} {fc fe : EF}
theorem de_lc (hN : X.N.Nodup) (ok : BlkOk X.N X.env.scope scope own) (hi : DI X W O tg iter fi)
    (hgo : GOk X.K O g t) (hg : ∀ (s : Shared) (H : Hp) (C : Addr) (cl : List (Str × Addr)) (fp : List Addr), PG (X.blk s H scope (compEnvC scope cl C X.env) fp) tg t) (ho : TOwn t (own.map (·.2)))
    (ht : ∀ (s : Shared) (H : Hp) (C : Addr) (cl : List (Str × Addr)) (fp : List Addr), DCs (X.blk s H scope (compEnvC scope cl C X.env) fp) W O ifs fc)
    (he : ∀ (s : Shared) (H : Hp) (C : Addr) (cl : List (Str × Addr)) (fp : List Addr), DE .e (X.blk s H scope (compEnvC scope cl C X.env) fp) W.no O elt fe)
    (hO : ∀ i, i ∈ own.map (·.2) → i ∉ O := by decide) (hc : X.calm = true := by rfl) (hs : ∀ x, foldedSetIterable iter X.env x = pure x := by intro _; rfl) :
    DE .f X W O (.ListComp elt [⟨tg, iter, ifs, 0⟩] scope pos) (eLc (own.map (·.2)) fi g fc fe) :=
  ⟨(pe_lc (pos := pos) (tt := rdT X.K W.no O fc) (te := rd X.K .e W.no O fe) hc hN hi.pi ok hg (fun s H C cl fp => (ht s H C cl fp).pts) (fun s H C cl fp => (he s H C cl fp).pe) hs).imp (lc_of hgo ho hO)⟩
/-- name = [..] on one line -/
theorem ps_lcs {i : Nat} {y : Str} {py spos : Pos} (hN : X.N.Nodup) (ok : BlkOk X.N X.env.scope scope own) (hi : DI X W O tg iter fi)
    (hg : ∀ (s : Shared) (H : Hp) (C : Addr) (cl : List (Str × Addr)) (fp : List Addr), PG (X.blk s H scope (compEnvC scope cl C X.env) fp) tg t)
    (ht : ∀ (s : Shared) (H : Hp) (C : Addr) (cl : List (Str × Addr)) (fp : List Addr), DCs (X.blk s H scope (compEnvC scope cl C X.env) fp) W O ifs fc)
    (he : ∀ (s : Shared) (H : Hp) (C : Addr) (cl : List (Str × Addr)) (fp : List Addr), DE .e (X.blk s H scope (compEnvC scope cl C X.env) fp) W.no O elt fe)
    (hy : X.N[i]? = some y) (hyl : X.env.scope.names.lookup y = some .local) (hsw : swapsWith (.ListComp elt [⟨tg, iter, ifs, 0⟩] scope pos) (some (.Name y py)) spos.line X.env = pure true) (hc : X.calm = true) (hs : ∀ x, foldedSetIterable iter X.env x = pure x) :
    PS X (.Assign [.Name y py] (.ListComp elt [⟨tg, iter, ifs, 0⟩] scope pos) spos) (tAsg (tLc (rdI X.K W O fi) t (rdT X.K W.no O fc) (rd X.K .e W.no O fe) (own.map (·.2))) (gName i)) :=
  ps_setLc (tt := rdT X.K W.no O fc) (te := rd X.K .e W.no O fe) hc hN hy hyl hsw hi.pi ok hg (fun s H C cl fp => (ht s H C cl fp).pts) (fun s H C cl fp => (he s H C cl fp).pe) hs
theorem ds_lcOwn (i : Nat) {L : Lp} {y : Str} {py spos : Pos} (hN : X.N.Nodup) (ok : BlkOk X.N X.env.scope scope own) (hi : DI X W O tg iter fi)
    (hgo : GOk X.K O g t) (hg : ∀ (s : Shared) (H : Hp) (C : Addr) (cl : List (Str × Addr)) (fp : List Addr), PG (X.blk s H scope (compEnvC scope cl C X.env) fp) tg t) (ho : TOwn t (own.map (·.2)))
    (ht : ∀ (s : Shared) (H : Hp) (C : Addr) (cl : List (Str × Addr)) (fp : List Addr), DCs (X.blk s H scope (compEnvC scope cl C X.env) fp) W O ifs fc)
    (he : ∀ (s : Shared) (H : Hp) (C : Addr) (cl : List (Str × Addr)) (fp : List Addr), DE .e (X.blk s H scope (compEnvC scope cl C X.env) fp) W.no O elt fe)
    (hsw : swapsWith (.ListComp elt [⟨tg, iter, ifs, 0⟩] scope pos) (some (.Name y py)) spos.line X.env = pure true) (hyl : X.env.scope.names.lookup y = some .local := by rfl)
    (hO : ∀ i, i ∈ own.map (·.2) → i ∉ O := by decide) (hiO : i ∉ O := by decide) (hy : X.N[i]? = some y := by rfl) (hc : X.calm = true := by rfl) (hs : ∀ x, foldedSetIterable iter X.env x = pure x := by intro _; rfl) :
    DS X W L O (.Assign [.Name y py] (.ListComp elt [⟨tg, iter, ifs, 0⟩] scope pos) spos) (i :: O) (sSet i (eLc (own.map (·.2)) fi g fc fe)) :=
  ⟨(ps_lcs hN ok hi hg ht he hy hyl hsw hc hs).imp fun En σ H h => lc_of hgo ho hO σ H _ (setOwn_of hiO En σ H h)⟩
end
theorem setF_of {K : PySem.W.Frag} {L : Lp} {W : WZ} {O : List Nat} {fe : EF} {i : Nat} (hO : i ∉ O) : ∀ En σ H, rdS K L W O O (sSet i fe) En σ H → tAsg (rd K .f W O fe) (gName i) En σ H := by
  rintro En σ H ⟨ent, w, ρ, S, r, p⟩
  refine ⟨ent, w, ρ, S, r, SPost.bind r p ?_⟩
  rintro d S1 v H1 w1 x g1 ⟨a, rfl, n, o⟩ q
  have r2 : R K ent O (w1.fix H1 a) H1 σ ρ S1 := r.later (x.fix o.1 n) (g1.fix o.1 o.2.1)
  exact q _ H1 _ (r2.put hO o.rep)
section
variable {X : Cx} {W : WZ} {O : List Nat} {elt tg iter : Expr} {ifs : List Expr} {scope : Scope} {own : List (Str × Nat)} {pos : Pos} {fi : IF} {g : GF} {t : TG} {fc fe : EF}
theorem ds_lcSet (i : Nat) {L : Lp} {y : Str} {py spos : Pos} (hN : X.N.Nodup) (ok : BlkOk X.N X.env.scope scope own) (hi : DI X W O tg iter fi)
    (hgo : GOk X.K O g t) (hg : ∀ (s : Shared) (H : Hp) (C : Addr) (cl : List (Str × Addr)) (fp : List Addr), PG (X.blk s H scope (compEnvC scope cl C X.env) fp) tg t) (ho : TOwn t (own.map (·.2)))
    (ht : ∀ (s : Shared) (H : Hp) (C : Addr) (cl : List (Str × Addr)) (fp : List Addr), DCs (X.blk s H scope (compEnvC scope cl C X.env) fp) W O ifs fc)
    (he : ∀ (s : Shared) (H : Hp) (C : Addr) (cl : List (Str × Addr)) (fp : List Addr), DE .e (X.blk s H scope (compEnvC scope cl C X.env) fp) W.no O elt fe)
    (hsw : swapsWith (.ListComp elt [⟨tg, iter, ifs, 0⟩] scope pos) (some (.Name y py)) spos.line X.env = pure true) (hyl : X.env.scope.names.lookup y = some .local := by rfl)
    (hO : ∀ i, i ∈ own.map (·.2) → i ∉ O := by decide) (hiO : i ∉ O := by decide) (hy : X.N[i]? = some y := by rfl) (hc : X.calm = true := by rfl) (hs : ∀ x, foldedSetIterable iter X.env x = pure x := by intro _; rfl) :
    DS X W L O (.Assign [.Name y py] (.ListComp elt [⟨tg, iter, ifs, 0⟩] scope pos) spos) O (sSet i (eLc (own.map (·.2)) fi g fc fe)) :=
  ⟨(ps_lcs hN ok hi hg ht he hy hyl hsw hc hs).imp fun En σ H h => lc_of hgo ho hO σ H _ (setF_of hiO En σ H h)⟩
end

/-! ### two clauses -/
def lcDs (g : GF) (fc fe : EF) : List D → List D → DEnv → Sto → Res
  | [], acc, _, S => .ok (.lst acc) S
  | x :: xs, acc, ρ, S => match g x ρ with
    | none => .stuck
    | some ρ1 => match fc ρ1 S with
      | .ok (.bl true) S1 => (match fe ρ1 S1 with
        | .ok d S2 => if acc.length < LIM then lcDs g fc fe xs (acc ++ [d]) ρ S2 else .stuck
        | _ => .stuck)
      | .ok (.bl false) S1 => lcDs g fc fe xs acc ρ S1
      | _ => .stuck
def lcD2 (g : GF) (fc : EF) (fi1 : IF) (vs1 : List Nat) (g1 : GF) (fc1 fe : EF) : List D → List D → DEnv → Sto → Res
  | [], acc, _, S => .ok (.lst acc) S
  | x :: xs, acc, ρ, S => match g x ρ with
    | none => .stuck
    | some ρ1 => match fc ρ1 S with
      | .ok (.bl true) S1 => (match fi1 ρ1 S1 with
        | .ok ds S2 => (match lcDs g1 fc1 fe ds acc (wipeD ρ1 vs1) S2 with
          | .ok (.lst acc') S3 => lcD2 g fc fi1 vs1 g1 fc1 fe xs acc' ρ S3
          | _ => .stuck)
        | _ => .stuck)
      | .ok (.bl false) S1 => lcD2 g fc fi1 vs1 g1 fc1 fe xs acc ρ S1
      | _ => .stuck
def eLc2 (vs vs1 : List Nat) (fi : IF) (g : GF) (fc : EF) (fi1 : IF) (g1 : GF) (fc1 fe : EF) : EF := fun ρ S => match fi ρ S with
  | .ok ds S1 => lcD2 g fc fi1 vs1 g1 fc1 fe ds [] (wipeD ρ vs) S1
  | .exn x S1 => .exn x S1
  | .stuck => .stuck
theorem lc2_of {K : PySem.W.Frag} {W : WZ} {O vs vs1 : List Nat} {fi fi1 : IF} {g gg : GF} {t t1 : TG} {fc fc1 fe : EF} (hgo : GOk K O g t) (ho : TOwn t vs) (hgo1 : GOk K O gg t1) (ho1 : TOwn t1 vs1) (hO : ∀ i, i ∈ vs → i ∉ O) (hO1 : ∀ i, i ∈ vs1 → i ∉ O) :
    ∀ σ H Q, rd K .f W O (eLc2 vs vs1 fi g fc fi1 gg fc1 fe) σ H Q → tLc2 (rdI K W O fi) t (rdT K W.no O fc) (rdI K W.no O fi1) t1 (rdT K W.no O fc1) (rd K .e W.no O fe) vs vs1 σ H Q := by
  rintro σ H Q ⟨ent, w, ρ, S, r, p⟩
  refine ⟨ent, w, ρ, S, r, ?_⟩
  unfold eLc2 at p
  cases e1 : fi ρ S with
  | stuck => rw [e1] at p; exact p
  | exn x S1 => rw [e1] at p; exact p
  | ok ds S1 =>
    rw [e1] at p
    intro J H1 w1 x1 g1 hJ hz L hL
    have r1 := (r.later x1 g1).wipe vs hO
    refine ⟨fun i m H => m = ds.length - i ∧ i ≤ ds.length ∧ ∃ w2 acc S2, Ext w1 H1 w2 H ∧ Gd K w2 H S2 ∧ Own K w2 H (.lst acc) L ∧ Post K .f w1 H1 W σ (lcD2 g fc fi1 vs1 gg fc1 fe (ds.drop i) acc (wipeD ρ vs) S2) Q, ⟨ds.length, by simp, Nat.zero_le _, w1, [], S1, Ext.newO w1 hL, g1.newO hL, ⟨g1.noneF hL, g1.nophi hL, [], upd_same, .nil⟩, by simpa using Post.later (r := lcD2 g fc fi1 vs1 gg fc1 fe ds [] (wipeD ρ vs) S1) x1 p⟩, ?_⟩
    rintro i m H2 ⟨rfl, hi, w2, acc, S2, x2, g2, o2, p2⟩
    obtain ⟨j1, j2⟩ := hJ w2 H2 S2 i x2.le g2
    by_cases hlt : i < ds.length
    · obtain ⟨jg, jy⟩ := j1 ds[i] (List.getElem?_eq_getElem hlt)
      refine .inr ⟨jg, fun H' => ∃ w' acc' S', Ext w1 H1 w' H' ∧ Gd K w' H' S' ∧ Own K w' H' (.lst acc') L ∧ Post K .f w1 H1 W σ (lcD2 g fc fi1 vs1 gg fc1 fe (ds.drop (i + 1)) acc' (wipeD ρ vs) S') Q,
        fun H' ⟨w', acc', S', q1, q2, q3, q5⟩ => ⟨ds.length - (i + 1), by omega, rfl, hlt, w', acc', S', q1, q2, q3, q5⟩, fun x H3 y => ?_⟩
      obtain ⟨w3, x3, g3, z3⟩ := jy x H3 y
      rw [List.drop_eq_getElem_cons hlt] at p2
      unfold lcD2 at p2
      have r3 : R K ent O w3 H3 (L2.wipe σ vs) (wipeD ρ vs) S2 := r1.later (x2.trans x3) g3
      cases e2 : g ds[i] (wipeD ρ vs) with
      | none => rw [e2] at p2; exact p2.elim
      | some ρ3 =>
        rw [e2] at p2
        dsimp only at p2
        refine ho.wiped (hgo.ok r3 z3 e2 fun σ3 s3' r3' => ?_)
        refine ⟨ent, w3, ρ3, S2, r3', ?_⟩
        have o3 : Own K w3 H3 (.lst acc) L := o2.ext x3
        cases e3 : fc ρ3 S2 with
        | stuck => rw [e3] at p2; exact p2.elim
        | exn y S3 => rw [e3] at p2; exact p2.elim
        | ok c S3 =>
          rw [e3] at p2
          cases c with
          | bl b =>
            refine ⟨b, rfl, fun H4 w4 x4 g4 => ?_⟩
            cases b with
            | false =>
              rw [if_neg Bool.false_ne_true]
              exact ⟨w4, acc, S3, x2.trans (x3.trans x4), g4, o3.ext x4, p2⟩
            | true =>
              rw [if_pos rfl]
              dsimp only at p2
              refine ⟨ent, w4, ρ3, S3, r3'.later x4 g4, ?_⟩
              cases e4 : fi1 ρ3 S3 with
              | stuck => rw [e4] at p2; exact p2.elim
              | exn y S4 => rw [e4] at p2; exact p2.elim
              | ok es S4 =>
                rw [e4] at p2
                intro J1 H5 w5 x5 g5 hJ1 hz1
                have o5 : Own K w5 H5 (.lst acc) L := (o3.ext x4).ext x5
                have r5 := ((r3'.later x4 g4).later x5 g5).wipe vs1 hO1
                -- the inner loop
                have entL : ent.H L = none := by
                  cases z : ent.H L with
                  | none => rfl
                  | some u => exact absurd hL ((r.ext.trans x1).there L (by rw [z]; simp))
                have nL : ∀ n, n ∈ O → (∃ d, (wipeD ρ3 vs1)[n]? = some (some d)) → (L2.wipe σ3 vs1)[n]? ≠ some (some (.ref L)) := fun n hn ⟨d, hd⟩ hs => by
                  obtain ⟨b, s1, s2, _⟩ := r5.own n d hd hn
                  rw [hs] at s1; cases s1
                  have s3 : (L2.wipe σ3 vs1)[n]? = σ3[n]? := by rw [wipe_get, if_neg (fun z => hO1 n z hn)]
                  have s4 : (L2.wipe σ vs)[n]? = σ[n]? := by rw [wipe_get, if_neg (fun z => hO n z hn)]
                  have s5 : σ[n]? = some (some (.ref L)) := by rw [← s4, ← s3' n hn, ← s3]; exact hs
                  obtain ⟨d0, hd0⟩ : ∃ d, ρ[n]? = some (some d) := ⟨d, by
                    rw [wipeD_out (fun z => hO1 n z hn), hgo.env _ _ _ e2 n hn, wipeD_out (fun z => hO n z hn)] at hd
                    exact hd⟩
                  obtain ⟨b, u1, u2, _⟩ := (r.later x1 g1).own n d0 hd0 hn
                  rw [s5] at u1; cases u1
                  exact u2.there hL
                refine ⟨fun j k H => k = es.length - j ∧ j ≤ es.length ∧ ∃ w6 acc6 S6, Ext w1 H1 w6 H ∧ Own K w6 H (.lst acc6) L ∧ R K ent O w6 H (L2.wipe σ3 vs1) (wipeD ρ3 vs1) S6 ∧ Le w5 w6 ∧
                    Post K .f w1 H1 W σ (match lcDs gg fc1 fe (es.drop j) acc6 (wipeD ρ3 vs1) S6 with
                      | .ok (.lst acc') S3 => lcD2 g fc fi1 vs1 gg fc1 fe (ds.drop (i + 1)) acc' (wipeD ρ vs) S3
                      | _ => .stuck) Q, ⟨es.length, by simp, Nat.zero_le _, w5, acc, S4, x2.trans (x3.trans (x4.trans x5)), o5, r5, .refl _, by simpa using p2⟩, ?_⟩
                rintro j k H6 ⟨rfl, hj, w6, acc6, S6, x6, o6, r6, l6, p6⟩
                obtain ⟨k1, k2⟩ := hJ1 w6 H6 S6 j l6 r6.gd
                by_cases hlj : j < es.length
                · obtain ⟨kg, ky⟩ := k1 es[j] (List.getElem?_eq_getElem hlj)
                  refine .inr ⟨kg, fun H' => ∃ w6 acc6 S6, Ext w1 H1 w6 H' ∧ Own K w6 H' (.lst acc6) L ∧ R K ent O w6 H' (L2.wipe σ3 vs1) (wipeD ρ3 vs1) S6 ∧ Le w5 w6 ∧
                    Post K .f w1 H1 W σ (match lcDs gg fc1 fe (es.drop (j + 1)) acc6 (wipeD ρ3 vs1) S6 with
                      | .ok (.lst acc') S3 => lcD2 g fc fi1 vs1 gg fc1 fe (ds.drop (i + 1)) acc' (wipeD ρ vs) S3
                      | _ => .stuck) Q, fun H' ⟨w', acc', S', q1, q2, q3, q4, q5⟩ => ⟨es.length - (j + 1), by omega, rfl, hlj, w', acc', S', q1, q2, q3, q4, q5⟩, fun x' H7 y' => ?_⟩
                  obtain ⟨w7, x7, g7, z7⟩ := ky x' H7 y'
                  rw [List.drop_eq_getElem_cons hlj] at p6
                  unfold lcDs at p6
                  cases e5 : gg es[j] (wipeD ρ3 vs1) with
                  | none => rw [e5] at p6; exact p6.elim
                  | some ρ7 =>
                    rw [e5] at p6
                    dsimp only at p6
                    refine ho1.wiped (hgo1.ok (r6.later x7 g7) z7 e5 fun σ7 _ r7 => ?_)
                    refine ⟨ent, w7, ρ7, S6, r7, ?_⟩
                    cases e6 : fc1 ρ7 S6 with
                    | stuck => rw [e6] at p6; exact p6.elim
                    | exn y S7 => rw [e6] at p6; exact p6.elim
                    | ok c S7 =>
                      rw [e6] at p6
                      cases c with
                      | bl b =>
                        refine ⟨b, rfl, fun H8 w8 x8 g8 => ?_⟩
                        cases b with
                        | false =>
                          rw [if_neg Bool.false_ne_true]
                          exact ⟨w8, acc6, S7, x6.trans (x7.trans x8), (o6.ext x7).ext x8, (r6.later x7 g7).later x8 g8, l6.trans (x7.le.trans x8.le), p6⟩
                        | true =>
                          rw [if_pos rfl]
                          dsimp only at p6
                          refine ⟨ent, w8, ρ7, S7, r7.later x8 g8, ?_⟩
                          cases e7 : fe ρ7 S7 with
                          | stuck => rw [e7] at p6; exact p6.elim
                          | exn y S8 => rw [e7] at p6; exact p6.elim
                          | ok d S8 =>
                            rw [e7] at p6
                            dsimp only at p6
                            intro v H9 w9 x9 g9 z9
                            have o9 : Own K w9 H9 (.lst acc6) L := ((o6.ext x7).ext x8).ext x9
                            obtain ⟨f1, f2, us, f3, f4⟩ := o9
                            by_cases hlim : acc6.length < LIM
                            · rw [if_pos hlim] at p6
                              refine ⟨us, f3, by rw [← f4.length]; exact lim_size hlim, w9, acc6 ++ [d], S8, (x6.trans (x7.trans (x8.trans x9))).updO hL, ⟨f1, f2, _, upd_same, f4.append (.cons z9 .nil)⟩, ?_, l6.trans (x7.le.trans (x8.le.trans x9.le)), p6⟩
                              exact (((r6.later x7 g7).later x8 g8).later x9 g9).updL (fun fs z => by rw [f3] at z; cases z) f1 f2 entL nL
                            · rw [if_neg hlim] at p6; exact p6.elim
                      | _ => exact p6.elim
                · have ej : j = es.length := by omega
                  subst ej
                  refine .inl ⟨k2 rfl, ?_⟩
                  rw [List.drop_length] at p6
                  exact ⟨w6, acc6, S6, x6, r6.gd, o6, p6⟩
          | _ => exact p2.elim
    · have ei : i = ds.length := by omega
      subst ei
      refine .inl ⟨j2 rfl, ?_⟩
      rw [List.drop_length] at p2
      exact p2 _ H2 w2 x2 g2 ⟨L, rfl, hL, o2⟩
end DL

/-! while; defs and calls; own lists and dicts changed -/
namespace DL
open PySem PySem.Spec PyProof.Rows L2

/-! ### while -/
def whileD (fc : EF) (fb : SF) : Nat → DEnv → Sto → SRes
  | 0, _, _ => .stuck
  | n + 1, ρ, S => sBind (fc ρ S) ρ fun d S1 => match d with
    | .bl true => (match fb ρ S1 with
      | .nx ρ2 S2 => whileD fc fb n ρ2 S2
      | .ct ρ2 S2 => whileD fc fb n ρ2 S2
      | .bk ρ2 S2 => .nx ρ2 S2
      | r => r)
    | .bl false => .nx ρ S1
    | _ => .stuck
def FUEL : Nat := 1000000
def sWhile (fc : EF) (fb : SF) : SF := fun ρ S => whileD fc fb FUEL ρ S
theorem while_bool {f g : Sto → SRes} : ∀ (d : D) (S : Sto), (match d with | .bl true => f S | .bl false => g S | _ => SRes.stuck) ≠ SRes.stuck → ∃ b, d = .bl b := fun d S h => by
  cases d with
  | bl b => exact ⟨b, rfl⟩
  | _ => exact absurd rfl h
section
variable {X : Cx} {W : WZ} {L : Lp} {O : List Nat} {c : Expr} {body : List Stmt} {fc : EF} {fb : SF} {pos : Pos}
theorem ds_while (hp : PassesOwn (model X.prog X.w) X.A X.env X.xe) (hc : DT X W O c fc) (hb : DSs X W ⟨O, O⟩ O body O fb) : DS X W L O (.While c body [] pos) O (sWhile fc fb) := by
  refine ⟨(ps_while hp hc.pt hb.ps).imp ?_⟩
  rintro En σ H ⟨ent, w, ρ, S, r, p⟩
  refine ⟨fun m σ H => ∃ w ρ S, R X.K ent O w H σ ρ S ∧ SPost X.K ent L W O (whileD fc fb m ρ S) En, ⟨FUEL, w, ρ, S, r, p⟩, ?_⟩
  rintro m σ2 H2 ⟨w2, ρ2, S2, r2, p2⟩
  cases m with
  | zero => exact p2.elim
  | succ m =>
    unfold whileD at p2
    refine ⟨ent, w2, ρ2, S2, r2, SPost.bindT r2 p2 ?_ fun b S3 H3 w3 x3 g3 q => ?_⟩
    · intro d S3 h
      cases d with
      | bl b => exact ⟨b, rfl⟩
      | _ => exact absurd rfl h
    · cases b with
      | false =>
        rw [if_neg Bool.false_ne_true]
        exact q w3 H3 σ2 (r2.later x3 g3)
      | true =>
        rw [if_pos rfl]
        refine ⟨fun σ' H' => ∃ w ρ S, R X.K ent O w H' σ' ρ S ∧ SPost X.K ent L W O (whileD fc fb m ρ S) En, fun σ' H' h => ⟨m, Nat.lt_succ_self m, h⟩, ent, w3, ρ2, S3, r2.later x3 g3, ?_⟩
        have q : SPost X.K ent L W O (match fb ρ2 S3 with
          | .nx ρ2 S2 => whileD fc fb m ρ2 S2
          | .ct ρ2 S2 => whileD fc fb m ρ2 S2
          | .bk ρ2 S2 => .nx ρ2 S2
          | r => r) En := q
        cases e : fb ρ2 S3 with
        | nx ρ4 S4 => rw [e] at q; exact fun w4 H4 σ4 r4 => ⟨w4, ρ4, S4, r4, q⟩
        | ct ρ4 S4 => rw [e] at q; exact fun w4 H4 σ4 r4 => ⟨w4, ρ4, S4, r4, q⟩
        | bk ρ4 S4 => rw [e] at q; exact q
        | rt d S4 => rw [e] at q; exact q
        | exn x ρ4 S4 => rw [e] at q; exact q
        | stuck => rw [e] at q; exact q
end

/-! ### defs -/
def PostF (K : PySem.W.Frag) (w : Wit) (H : Hp) (r : Res) (Q : VK) (E : XK) : Prop := match r with
  | .ok d S => ∀ v H' w', Ext w H w' H' → Gd K w' H' S → Rep K w' d v → Q v H'
  | .exn x S => ∀ cls dx H' w', Ext w H w' H' → Gd K w' H' S → RepX K w' H' x cls dx → E cls dx H'
  | .stuck => False
def spD (K : PySem.W.Frag) (n : Nat) (ff : FF) : Sp := fun vs H Q E => vs.length = n ∧ ∃ w S ds, Gd K w H S ∧ Reps K w ds vs ∧ PostF K w H (ff ds S) Q E
def fnD (n : Nat) (fb : SF) : FF := fun ds S => match fb (ds.map some ++ List.replicate (n - ds.length) none) S with
  | .rt d S1 => .ok d S1
  | .nx _ S1 => .ok .non S1
  | .exn x _ S1 => .exn x S1
  | _ => .stuck
abbrev WE (E : XK) : WZ := ⟨fun cls d _ H => E cls d H, none⟩
theorem fn_read {K : PySem.W.Frag} {N : List Str} {n : Nat} {fb : SF} {O' : List Nat} {vs : List V} {H : Hp} {Q : VK} {E : XK} (hn : n ≤ N.length) (h : spD K n (fnD N.length fb) vs H Q E) :
    rdS K ⟨[], []⟩ (WE E) [] O' fb { nx := fun _ H' => Q .non H', rt := Q } (L2.start N vs) H := by
  obtain ⟨hl, w, S, ds, g, rs, p⟩ := h
  have hd := rs.length
  refine ⟨(⟨w, H, w⟩ : Ent none), w, ds.map some ++ List.replicate (N.length - ds.length) none, S, ⟨g, .refl _ _, .refl _, fun i d e _ => ?_, fun i d e n => absurd n (by simp), fun i j a hi => absurd hi (by simp), ?_, fun z hz => by cases hz⟩, ?_⟩
  · by_cases hi : i < ds.length
    · rw [List.getElem?_append_left (by simpa using hi), List.getElem?_map] at e
      cases e2 : ds[i]? with
      | none => rw [e2] at e; cases e
      | some d' =>
        rw [e2] at e; cases e
        obtain ⟨v, ev, rv⟩ := rs.get e2
        refine ⟨v, ?_, rv⟩
        unfold L2.start
        rw [List.getElem?_append_left (by rw [List.length_map, ← hd]; exact hi), List.getElem?_map, ev]; rfl
    · rw [List.getElem?_append_right (by simpa using hi)] at e
      have := List.mem_of_getElem? e
      rw [List.mem_replicate] at this
      exact absurd this.2 (by simp)
  · unfold L2.start; simp; omega
  · unfold fnD at p
    cases e : fb (ds.map some ++ List.replicate (N.length - ds.length) none) S with
    | nx ρ S1 => rw [e] at p; exact fun w1 H1 σ r => p .non H1 w1 r.ext r.gd .non
    | rt d S1 => rw [e] at p; exact fun v H1 w1 x g1 z => p v H1 w1 x g1 z
    | exn x ρ S1 => rw [e] at p; exact fun w1 H1 σ cls dx r h => p cls dx H1 w1 r.ext r.gd h
    | bk ρ S1 => rw [e] at p; exact p.elim
    | ct ρ S1 => rw [e] at p; exact p.elim
    | stuck => rw [e] at p; exact p.elim
section
variable {P : Program} {w : World} {K : PySem.W.Frag} {mg : Str → Option Value} {base : Heap} {x qual : Str} {params : Arguments} {body : List Stmt} {scope : Scope} {dvs : List V} {kws : List (Str × V)} {f : Addr} {fd : FuncData}
/-- a def keeps what its body's reading says -/
theorem fn_dl {N ps : List Str} {k : Nat} {fb : SF} {O' : List Nat} (F : FunD K x qual params body scope dvs kws f fd) (S : FnScope N ps scope) (hn : ps.length ≤ N.length)
    (hbody : ∀ (cdv : Value) (A : Around) (outer : List PySem.Env) (s : Shared) (H : Hp) (E : XK), Room k (A.deeper (envOfC qual scope s.heap.objs.size f cdv)) → DSs (cxOf (L2.CX P w) P w K mg base N qual scope f cdv A outer s H E) (WE E) ⟨[], []⟩ [] body O' fb) :
    FnOk P w K mg base (L2.CX P w) (k + 1) f fd ps (spD K ps.length (fnD N.length fb)) := by
  refine F.ok S (fun vs H Q E h => h.1) fun cdv A outer s H vs Q E hr h => ?_
  exact ⟨_, (hbody cdv A outer s H E hr).ps, fn_read hn h⟩
end
def eCall (ff : FF) (fa : AF) : EF := fun ρ S => (fa ρ S).bind fun ds S1 => ff ds S1
section
variable {X : Cx} {W : WZ} {O : List Nat} {k : Nat} {f : Addr} {fd : FuncData} {ps : List Str} {ff : FF} {x : Str} {p pos : Pos} {e : Expr} {es : List Expr} {fa : AF}
theorem PostF.post {K : PySem.W.Frag} {w : Wit} {H : Hp} {σ : L2.St} {r : Res} {Q : VK} (h : Post K .e w H W σ r Q) : PostF K w H r Q (fun cls dx H' => W.wx cls dx σ H') := by
  cases r with
  | ok d S => exact h
  | exn x S => exact h
  | stuck => exact h
theorem call_of {K : PySem.W.Frag} {n : Nat} (hlen : ∀ ρ S ds S1, fa ρ S = .ok ds S1 → ds.length = n) : ∀ σ H Q, rd K .e W O (eCall ff fa) σ H Q → tCallSD (spD K n ff) [] (fun σ cls dx H' => W.wx cls dx σ H') (rdA K (PRep K) W O fa) σ H Q := by
  rintro σ H Q ⟨ent, w, ρ, S, r, p⟩
  refine ⟨ent, w, ρ, S, r, ?_⟩
  unfold eCall at p
  cases e : fa ρ S with
  | stuck => rw [e] at p; exact p
  | exn x S1 => rw [e] at p; exact p
  | ok ds S1 =>
    rw [e] at p
    intro vs H1 w1 x1 g1 z
    have z : Reps K w1 ds vs := z
    rw [List.append_nil]
    exact ⟨by rw [← z.length]; exact hlen _ _ _ _ e, w1, S1, ds, g1, z, PostF.post (Post.later (r := ff ds S1) x1 p)⟩
theorem aCons_len {f : EF} {g : AF} {n : Nat} (h : ∀ ρ S ds S1, g ρ S = .ok ds S1 → ds.length = n) : ∀ ρ S ds S1, aCons f g ρ S = .ok ds S1 → ds.length = n + 1 := fun ρ S ds S1 e => by
  unfold aCons at e
  cases e1 : f ρ S with
  | stuck => rw [e1] at e; cases e
  | exn x S2 => rw [e1] at e; cases e
  | ok d S2 =>
    rw [e1] at e
    dsimp only at e
    cases e2 : g ρ S2 with
    | stuck => rw [e2] at e; cases e
    | exn x S3 => rw [e2] at e; cases e
    | ok es S3 => rw [e2] at e; cases e; simp [h _ _ _ _ e2]
theorem aNil_len : ∀ (ρ : DEnv) (S : Sto) ds S1, aNil ρ S = .ok ds S1 → ds.length = 0 := fun ρ S ds S1 e => by cases e; rfl
theorem de_call (F : FnOk X.prog X.w X.K X.mg X.base (L2.CX X.prog X.w) k f fd ps (spD X.K ps.length ff)) (hr : Room k X.A) (hm : X.mg x = some (.ref f)) (hk : PySem.W.keepIn X.K (.ref f) = true) (hb : Binds X.K fd ps []) (tk : Takes X W.wx) (ha : DA X W O (e :: es) fa)
    (hlen : ∀ ρ S ds S1, fa ρ S = .ok ds S1 → ds.length = ps.length) (hg : Gl X x := by rfl)
    (hdb : (x == ("__debug__" : Str)) = false := by decide) (he : starEach (e :: es) X.env = (false, eval e X.env) :: starEach es X.env := by rfl) (hpl : (backTo pos (starEach es X.env)).any (·.1) = false := by rfl) :
    DE .e X W O (.Call (.Name x p) (e :: es) [] pos) (eCall ff fa) :=
  ⟨(pe_callSD F hr hg hm hk hb .nil (fun σ => L2.passAt tk σ) ha.pa hdb he hpl).imp (call_of hlen)⟩
end
end DL

/-! operators on data -/
namespace DL
open PySem PySem.Spec PyProof.Rows L2

/-! ### plain data -/
mutual
def toPy : D → PyData
  | .bl b => .bool b
  | .int i => .int i
  | .str x => .str x
  | .tup ds => .tuple (toPys ds)
  | .ctp ds => .tuple (toPys ds)
  | .lst ds => .list (toPys ds)
  | _ => .none
def toPys : List D → List PyData
  | [] => []
  | d :: ds => toPy d :: toPys ds
end
mutual
def plD : D → Bool
  | .non => true
  | .bl _ => true
  | .int _ => true
  | .str _ => true
  | .tup ds => plDs ds
  | .ctp ds => plDs ds
  | .lst ds => plDs ds
  | _ => false
def plDs : List D → Bool
  | [] => true
  | d :: ds => plD d && plDs ds
end
theorem toPys_map : ∀ ds : List D, toPys ds = ds.map toPy
  | [] => by simp [toPys]
  | d :: ds => by simp [toPys, toPys_map ds]
theorem plDs_all : ∀ ds : List D, plDs ds = ds.all plD
  | [] => by simp [plDs]
  | d :: ds => by simp [plDs, plDs_all ds]
mutual
theorem Rep.dp {K : PySem.W.Frag} {w : Wit} {H : Hp} (hs : ∀ a o, w.F a = some o → H a = some o) : ∀ {d : D} {v : V}, Rep K w d v → plD d = true → Dp K H v (toPy d)
  | _, _, .non, _ => by simp only [toPy]; exact .non
  | _, _, .bl b, _ => by simp only [toPy]; exact .bl b
  | _, _, .int b, _ => by simp only [toPy]; exact .int b
  | _, _, .str b, _ => by simp only [toPy]; exact .str b
  | _, _, .tup h r, p => by simp only [toPy]; exact .tup (SqT.of (hs _ _ h)) (Reps.dp hs r (by simpa [plD] using p))
  | _, _, .ctp h r, p => by simp only [toPy]; exact .tup (SqT.monoF none_le h) (Reps.dp hs r (by simpa [plD] using p))
  | _, _, .lst h r, p => by simp only [toPy]; exact .lst (SqL.monoF hs h) (Reps.dp hs r (by simpa [plD] using p))
  | _, _, .dK h r, p => absurd p (by simp [plD])
  | _, _, .dT h r, p => absurd p (by simp [plD])
  | _, _, .ins h r, p => absurd p (by simp [plD])
  | _, _, .obj h, p => absurd p (by simp [plD])
  | _, _, .cls c, p => absurd p (by simp [plD])
theorem Reps.dp {K : PySem.W.Frag} {w : Wit} {H : Hp} (hs : ∀ a o, w.F a = some o → H a = some o) : ∀ {ds : List D} {vs : List V}, Reps K w ds vs → plDs ds = true → DpAll K H vs (toPys ds)
  | _, _, .nil, _ => by simp only [toPys]; exact .nil
  | _, _, .cons h t, p => by
    simp only [plDs, Bool.and_eq_true] at p
    simp only [toPys]
    exact .cons (Rep.dp hs h p.1) (Reps.dp hs t p.2)
end
theorem Vw.dp {K : PySem.W.Frag} {w : Wit} {H : Hp} (hs : ∀ a o, w.F a = some o → H a = some o) {d : D} {v : V} (h : Vw K w H d v) (p : plD d = true) : Dp K H v (toPy d) := by
  cases h with
  | non => simp only [toPy]; exact .non
  | bl b => simp only [toPy]; exact .bl b
  | int b => simp only [toPy]; exact .int b
  | str b => simp only [toPy]; exact .str b
  | tup h r => simp only [toPy]; exact .tup (SqT.of (hs _ _ h)) (Reps.dp hs r (by simpa [plD] using p))
  | ctp h r => simp only [toPy]; exact .tup (SqT.monoF none_le h) (Reps.dp hs r (by simpa [plD] using p))
  | lst h r => simp only [toPy]; exact .lst h (Reps.dp hs r (by simpa [plD] using p))
  | _ => exact absurd p (by simp [plD])
/-- == -/
def eqD (x y : D) : Bool := PyData.eqv (toPy x) (toPy y)
/-- fit to be compared at any depth -/
def shD (d : D) : Bool := plD d && SeqAt.shaped (toPy d)
def flatD : D → Bool
  | .non => true
  | .bl _ => true
  | .int _ => true
  | .str _ => true
  | _ => false
def scalD : D → D → Bool
  | .non, .non => true | .non, .int _ => true | .int _, .non => true | .non, .bl _ => true | .bl _, .non => true | .non, .str _ => true | .str _, .non => true
  | .int _, .int _ => true | .bl _, .bl _ => true | .str _, .str _ => true
  | .int _, .str _ => true | .str _, .int _ => true | .bl _, .str _ => true | .str _, .bl _ => true
  | _, _ => false
def eqF (x y : D) : Option D := if scalD x y = true ∨ (shD x = true ∧ shD y = true) then some (.bl (eqD x y)) else none
def neF (x y : D) : Option D := if scalD x y = true ∨ (shD x = true ∧ shD y = true) then some (.bl (!eqD x y)) else none
theorem scal_of {K : PySem.W.Frag} {w : Wit} {H : Hp} {d1 d2 : D} {x y : V} (h1 : Vw K w H d1 x) (h2 : Vw K w H d2 y) (h : scalD d1 d2 = true) : scal x y = true ∧ decide (x = y) = eqD d1 d2 := by
  cases h1 <;> cases h2 <;> simp [scalD] at h <;> refine ⟨rfl, ?_⟩ <;> simp [eqD, toPy, PyData.eqv, dec_int, dec_str, dec_bl, Bool.beq_eq_decide_eq]
section
variable {X : Cx}
theorem op_eqd (hu : X.A.units + 64 < cLine) : OpR X (compareOp .Eq) (r2 X.K .e eqF) := by
  intro pins s σ H x y v u Q I rx ry ⟨w, S, d1, d2, d, g, k1, k2, e, q⟩
  have v1 := k1.vw g
  have v2 := k2.vw g
  unfold eqF at e
  split at e
  · rename_i hc
    cases e
    rcases hc with hc | ⟨s1, s2⟩
    · obtain ⟨a, b⟩ := scal_of v1 v2 hc
      exact op_eq pins s σ H x y v u Q I rx ry ⟨a, by rw [b]; exact q _ H w (.refl _ _) g (.bl _)⟩
    · have t1 := Bool.and_eq_true_iff.mp s1
      have t2 := Bool.and_eq_true_iff.mp s2
      exact op_eqD hu pins s σ H x y v u Q I rx ry ⟨_, _, v1.dp g.sub t1.1, v2.dp g.sub t2.1, t1.2, t2.2, q _ H w (.refl _ _) g (.bl _)⟩
  · cases e
theorem op_ned (hu : X.A.units + 64 < cLine) : OpR X (compareOp .NotEq) (r2 X.K .e neF) := by
  intro pins s σ H x y v u Q I rx ry ⟨w, S, d1, d2, d, g, k1, k2, e, q⟩
  have v1 := k1.vw g
  have v2 := k2.vw g
  unfold neF at e
  split at e
  · rename_i hc
    cases e
    rcases hc with hc | ⟨s1, s2⟩
    · obtain ⟨a, b⟩ := scal_of v1 v2 hc
      exact op_ne pins s σ H x y v u Q I rx ry ⟨a, by rw [b]; exact q _ H w (.refl _ _) g (.bl _)⟩
    · have t1 := Bool.and_eq_true_iff.mp s1
      have t2 := Bool.and_eq_true_iff.mp s2
      exact op_neD hu pins s σ H x y v u Q I rx ry ⟨_, _, v1.dp g.sub t1.1, v2.dp g.sub t2.1, t1.2, t2.2, q _ H w (.refl _ _) g (.bl _)⟩
  · cases e
end

/-! ### order -/
def iLt (f : Int → Int → Bool) : D → D → Option D
  | .int i, .int j => some (.bl (f i j))
  | _, _ => none
def ltD (x y : D) : Bool := PySem.W.dataLt (toPy x) (toPy y)
def alikeD (x y : D) : Bool := plD x && plD y && PySem.W.alike (toPy x) (toPy y)
def nnB : D → Bool
  | .non => false
  | _ => true
/-- data that < takes -/
def cmpD (x y : D) : Bool := alikeD x y && nnB x && decide ((toPy x).depth ≤ 64)
def ltF : D → D → Option D
  | .int i, .int j => some (.bl (decide (i < j)))
  | x, y => if cmpD x y = true then some (.bl (ltD x y)) else none
theorem toPy_ne {d : D} (h : plD d = true) (hn : nnB d = true) : toPy d ≠ .none := by
  cases d with
  | non => cases hn
  | bl b => simp only [toPy]; intro z; cases z
  | int b => simp only [toPy]; intro z; cases z
  | str b => simp only [toPy]; intro z; cases z
  | tup b => simp only [toPy]; intro z; cases z
  | ctp b => simp only [toPy]; intro z; cases z
  | lst b => simp only [toPy]; intro z; cases z
  | _ => simp [plD] at h
section
variable {X : Cx}
theorem op_ints {op : CmpOp} {f : Int → Int → Bool} (ho : OpR X (compareOp op) (rI0 fun i j => .bl (f i j))) : OpR X (compareOp op) (r2 X.K .e (iLt f)) := by
  intro pins s σ H x y v u Q I rx ry ⟨w, S, d1, d2, d, g, k1, k2, e, q⟩
  have v1 := k1.vw g
  have v2 := k2.vw g
  generalize deref S d1 = D1 at v1 e
  generalize deref S d2 = D2 at v2 e
  cases v1 <;> cases v2 <;> first
    | cases e
    | (simp only [iLt] at e; cases e)
  exact ho pins s σ H _ _ v u Q I rx ry ⟨_, _, rfl, rfl, q _ H w (.refl _ _) g (.bl _)⟩
theorem op_led : OpR X (compareOp .LtE) (r2 X.K .e (iLt fun i j => decide (i ≤ j))) := op_ints op_le
theorem op_gtd : OpR X (compareOp .Gt) (r2 X.K .e (iLt fun i j => decide (j < i))) := op_ints op_gt
theorem op_ged : OpR X (compareOp .GtE) (r2 X.K .e (iLt fun i j => decide (j ≤ i))) := op_ints op_ge
theorem op_lti : OpR X (compareOp .Lt) (r2 X.K .e (iLt fun i j => decide (i < j))) := op_ints op_lt
end

/-! ### arithmetic -/
def addF : D → D → Option D
  | .int i, .int j => some (.int (i + j))
  | .str a, .str b => if a.length + b.length < LIM then some (.str (a ++ b)) else none
  | .tup a, .tup b => if a.length + b.length < LIM then some (.tup (a ++ b)) else none
  | .lst a, .lst b => if a.length + b.length < LIM then some (.lst (a ++ b)) else none
  | _, _ => none
def subF : D → D → Option D
  | .int i, .int j => some (.int (i - j))
  | _, _ => none
def mulF : D → D → Option D
  | .int i, .int j => if (-(2 ^ 64) < j ∧ j < 2 ^ 64) then some (.int (i * j)) else none
  | _, _ => none
def divF : D → D → Option D
  | .int i, .int j => if 0 < j ∧ j < 1073741824 then some (.int (i / j)) else none
  | _, _ => none
def modF : D → D → Option D
  | .int i, .int j => if 0 < j then some (.int (i % j)) else none
  | _, _ => none
def powF : D → D → Option D
  | .int i, .int j => if 0 ≤ j ∧ j ≤ 1000000 ∧ i.natAbs < 2 ^ 64 then some (.int (i ^ j.toNat)) else none
  | _, _ => none
def negF : D → Option D
  | .int i => some (.int (-i))
  | _ => none
/-- list + list, by value -/
def rCatL (K : PySem.W.Frag) : R2 := fun x y H Q => ∃ l b xs zs, x = .ref l ∧ y = .ref b ∧ SqL K H l xs ∧ SqL K H b zs ∧ xs.length + zs.length ≤ sizeLine ∧ ∀ p, H p = none → Q (.ref p) (upd H p (.lst (xs ++ zs)))
section
variable {X : Cx}
theorem op_catL : OpR X (binaryOp .Add) (rCatL X.K) := by
  intro pins s σ H x y v u Q I rx ry ⟨l, b, xs, zs, ex, ey, h1, h2, hz, q⟩
  subst ex ey
  cases rx
  cases ry
  obtain ⟨its, r, ⟨⟨c1, dd1, dt1, sl1⟩, n, e, hc, hd, hdt⟩, z1⟩ := I.list h1
  obtain ⟨its2, r2, ⟨⟨c2, dd2, dt2, sl2⟩, n2, e2, hc2, hd2, hdt2⟩, z2⟩ := I.list h2
  simp only at hc hd hdt hc2 hd2 hdt2
  subst hc hd hdt hc2 hd2 hdt2
  have l1 := r.length
  have l2 := r2.length
  have ea : its.toArray ++ its2.toArray = (its ++ its2).toArray := by simp
  refine concat_meets ⟨_, e, rfl⟩ ⟨_, e2, rfl⟩ noFill_list_add seq_list_add PySem.F.slot_list_add PySem.F.entry_list_add (PySem.F.args_list_add_2 _ _)
    (list_addW l b its.toArray its2.toArray n n2 none none sl1 sl2 (by rw [List.size_toArray, List.size_toArray]; omega)) ⟨e, e2, ?_⟩
  rw [ea]
  exact ⟨.ref _, _, I.lnew (t' := s.toks) (r.append r2) (by rw [List.length_append]; exact hz), rfl, q _ I.fresh⟩
theorem op_addd : OpR X (binaryOp .Add) (r2 X.K .e addF) := by
  intro pins s σ H x y v u Q I rx ry ⟨w, S, d1, d2, d, g, k1, k2, e, q⟩
  have v1 := k1.vw g
  have v2 := k2.vw g
  generalize deref S d1 = D1 at v1 e
  generalize deref S d2 = D2 at v2 e
  cases v1 with
  | int i =>
    cases v2 with
    | int j => cases e; exact op_add pins s σ H _ _ v u Q I rx ry ⟨i, j, rfl, rfl, q _ H w (.refl _ _) g (.int _)⟩
    | _ => cases e
  | str a =>
    cases v2 with
    | str b =>
      simp only [addF] at e
      split at e
      · rename_i hl
        cases e
        exact op_add_str pins s σ H _ _ v u Q I rx ry ⟨a, b, rfl, rfl, Nat.le_of_lt (lim_size hl), q _ H w (.refl _ _) g (.str _)⟩
      · cases e
    | _ => cases e
  | @tup a1 vs1 ds1 h1 r1 =>
    cases v2 with
    | @tup a2 vs2 ds2 h2 r2 =>
      simp only [addF] at e
      split at e
      · rename_i hl
        cases e
        have e1 := r1.length
        have e2 := r2.length
        refine op_catA pins s σ H _ _ v u Q I rx ry ⟨a1, a2, vs1, vs2, rfl, rfl, SqT.of (g.sub _ _ h1), SqT.of (g.sub _ _ h2), by rw [← e1, ← e2]; exact Nat.le_of_lt (lim_size hl), fun hx => ?_, fun hx hy => ?_, fun hx hy p np => ?_⟩
        · have hd : ds1 = [] := List.eq_nil_of_length_eq_zero (by rw [e1, hx]; rfl)
          rw [hd] at q
          exact q _ H w (.refl _ _) g (.tup h2 r2)
        · have hd : ds2 = [] := List.eq_nil_of_length_eq_zero (by rw [e2, hy]; rfl)
          rw [hd, List.append_nil] at q
          exact q _ H w (.refl _ _) g (.tup h1 r1)
        · exact q _ _ (w.new p (.tup (vs1 ++ vs2))) (Ext.newF g np) (g.new np) (.tup upd_same ((r1.append r2).mono (Le.new (g.noneF np))))
      · cases e
    | _ => cases e
  | @lst a1 vs1 ds1 h1 r1 =>
    cases v2 with
    | @lst a2 vs2 ds2 h2 r2 =>
      simp only [addF] at e
      split at e
      · rename_i hl
        cases e
        have e1 := r1.length
        have e2 := r2.length
        refine op_catL pins s σ H _ _ v u Q I rx ry ⟨a1, a2, vs1, vs2, rfl, rfl, h1, h2, by rw [← e1, ← e2]; exact Nat.le_of_lt (lim_size hl), fun p np => ?_⟩
        exact q _ _ (w.new p (.lst (vs1 ++ vs2))) (Ext.newF g np) (g.new np) (.lst (.inl (.inl upd_same)) ((r1.append r2).mono (Le.new (g.noneF np))))
      · cases e
    | _ => cases e
  | _ => cases v2 <;> cases e
/-- list + list, the new list nobody's -/
def catF : D → D → Option D
  | .lst a, .lst b => if a.length + b.length < LIM then some (.lst (a ++ b)) else none
  | _, _ => none
theorem op_catd : OpR X (binaryOp .Add) (r2 X.K .f catF) := by
  intro pins s σ H x y v u Q I rx ry ⟨w, S, d1, d2, d, g, k1, k2, e, q⟩
  have v1 := k1.vw g
  have v2 := k2.vw g
  generalize deref S d1 = D1 at v1 e
  generalize deref S d2 = D2 at v2 e
  cases v1 with
  | @lst a1 vs1 ds1 h1 r1 =>
    cases v2 with
    | @lst a2 vs2 ds2 h2 r2 =>
      simp only [catF] at e
      split at e
      · rename_i hl
        cases e
        have e1 := r1.length
        have e2 := r2.length
        refine op_catL pins s σ H _ _ v u Q I rx ry ⟨a1, a2, vs1, vs2, rfl, rfl, h1, h2, by rw [← e1, ← e2]; exact Nat.le_of_lt (lim_size hl), fun p np => ?_⟩
        exact q _ _ w (Ext.newO w np) (g.newO np) ⟨p, rfl, np, g.noneF np, g.nophi np, _, upd_same, r1.append r2⟩
      · cases e
    | _ => cases e
  | _ => cases v2 <;> cases e
theorem op_ints2 {op : Operator} {C : Int → Int → Prop} {f : Int → Int → Int} {gF : D → D → Option D} (ho : OpR X (binaryOp op) (rI C fun i j => .int (f i j))) (hg : ∀ x y d, gF x y = some d → ∃ i j, x = .int i ∧ y = .int j ∧ C i j ∧ d = .int (f i j)) : OpR X (binaryOp op) (r2 X.K .e gF) := by
  intro pins s σ H x y v u Q I rx ry ⟨w, S, d1, d2, d, g, k1, k2, e, q⟩
  have v1 := k1.vw g
  have v2 := k2.vw g
  obtain ⟨i, j, e1, e2, c, rfl⟩ := hg _ _ _ e
  rw [e1] at v1
  rw [e2] at v2
  cases v1
  cases v2
  exact ho pins s σ H _ _ v u Q I rx ry ⟨i, j, rfl, rfl, c, q _ H w (.refl _ _) g (.int _)⟩
theorem op_subd : OpR X (binaryOp .Sub) (r2 X.K .e subF) := by
  intro pins s σ H x y v u Q I rx ry ⟨w, S, d1, d2, d, g, k1, k2, e, q⟩
  have v1 := k1.vw g
  have v2 := k2.vw g
  generalize deref S d1 = D1 at v1 e
  generalize deref S d2 = D2 at v2 e
  cases v1 <;> cases v2 <;> cases e
  exact op_sub pins s σ H _ _ v u Q I rx ry ⟨_, _, rfl, rfl, q _ H w (.refl _ _) g (.int _)⟩
theorem op_muld : OpR X (binaryOp .Mult) (r2 X.K .e mulF) := op_ints2 op_mul fun x y d e => by
  cases x <;> cases y <;> simp only [mulF] at e <;> first
    | cases e
    | (split at e
       · rename_i hc; cases e; exact ⟨_, _, rfl, rfl, .inr hc, rfl⟩
       · cases e)
theorem op_divd : OpR X (binaryOp .FloorDiv) (r2 X.K .e divF) := op_ints2 op_fdiv fun x y d e => by
  cases x <;> cases y <;> simp only [divF] at e <;> first
    | cases e
    | (split at e
       · rename_i hc; cases e; exact ⟨_, _, rfl, rfl, hc, rfl⟩
       · cases e)
theorem op_modd : OpR X (binaryOp .Mod) (r2 X.K .e modF) := op_ints2 op_mod fun x y d e => by
  cases x <;> cases y <;> simp only [modF] at e <;> first
    | cases e
    | (split at e
       · rename_i hc; cases e; exact ⟨_, _, rfl, rfl, hc, rfl⟩
       · cases e)
theorem op_powd : OpR X (binaryOp .Pow) (r2 X.K .e powF) := op_ints2 op_pow fun x y d e => by
  cases x <;> cases y <;> simp only [powF] at e <;> first
    | cases e
    | (split at e
       · rename_i hc; cases e; exact ⟨_, _, rfl, rfl, hc, rfl⟩
       · cases e)
theorem un_negd : UnR X (unaryOp .USub) (r1 X.K .e negF) := by
  intro pins s σ H x v Q I rx ⟨w, S, d1, d, g, k1, e, q⟩
  have v1 := k1.vw g
  generalize deref S d1 = D1 at v1 e
  cases v1 <;> cases e
  exact un_neg pins s σ H _ v Q I rx ⟨_, rfl, q _ H w (.refl _ _) g (.int _)⟩
end
end DL

/-! subscripts, slices, in -/
namespace DL
open PySem PySem.Spec PyProof.Rows L2

theorem _root_.L2.PE.or {X : Cx} {e : Expr} {t t' : TE} (h : PE X e t) (h' : PE X e t') : PE X e (fun σ H Q => t σ H Q ∨ t' σ H Q) :=
  ⟨fun pins s σ H Q I q => q.elim (h.run pins s σ H Q I) (h'.run pins s σ H Q I)⟩

/-! ### keys -/
def kOf : D → Option L2.Key
  | .int i => some (.inl i)
  | .str x => some (.inr x)
  | _ => none
theorem kOf_kD (k : L2.Key) : kOf (kD k) = some k := by cases k <;> rfl
theorem kOf_vw {K : PySem.W.Frag} {w : Wit} {H : Hp} {d : D} {v : V} {k : L2.Key} (h : Vw K w H d v) (e : kOf d = some k) : v = kV k := by
  cases h <;> simp [kOf] at e <;> subst e <;> rfl
theorem kOf_rep {K : PySem.W.Frag} {w : Wit} {d : D} {v : V} {k : L2.Key} (h : Rep K w d v) (e : kOf d = some k) : v = kV k := by
  cases h <;> simp [kOf] at e <;> subst e <;> rfl
def ksOf : List D → Option (List L2.Key)
  | [] => some []
  | d :: ds => match kOf d, ksOf ds with
    | some k, some ks => some (k :: ks)
    | _, _ => none
theorem ksOf_kD : ∀ ks : List L2.Key, ksOf (ks.map kD) = some ks
  | [] => rfl
  | k :: ks => by simp only [List.map_cons, ksOf, kOf_kD, ksOf_kD ks]
theorem ksOf_reps {K : PySem.W.Frag} {w : Wit} {ds : List D} {vs : List V} (h : Reps K w ds vs) : ∀ {ks : List L2.Key}, ksOf ds = some ks → vs = ks.map kV := by
  induction ds generalizing vs with
  | nil => intro ks e; cases h; cases e; rfl
  | cons d ds ih =>
    intro ks e
    cases h with
    | cons h t =>
      simp only [ksOf] at e
      cases e1 : kOf d with
      | none => simp [e1] at e
      | some k =>
        cases e2 : ksOf ds with
        | none => simp [e1, e2] at e
        | some ks' => simp [e1, e2] at e; subst e; rw [kOf_rep h e1, ih t e2]; rfl
def tOf : D → Option (List L2.Key)
  | .tup ds => ksOf ds
  | _ => none
def getK (kvs : List (D × D)) (k : L2.Key) : Option D := (kvs.find? fun kv => decide (kOf kv.1 = some k)).map (·.2)
def getT (kvs : List (D × D)) (k : List L2.Key) : Option D := (kvs.find? fun kv => decide (tOf kv.1 = some k)).map (·.2)
def OptRep (K : PySem.W.Frag) (w : Wit) : Option D → Option V → Prop
  | some d, some v => Rep K w d v
  | none, none => True
  | _, _ => False
theorem getK_rep {K : PySem.W.Frag} {w : Wit} {ds : List (D × D)} {vs : List (L2.Key × V)} (h : RepK K w ds vs) (k : L2.Key) : OptRep K w (getK ds k) (valV vs k) := by
  unfold getK valV
  induction ds generalizing vs with
  | nil => cases h; exact trivial
  | cons d ds ih =>
    cases h with
    | @cons k' d v ds vs h t =>
      rw [List.find?_cons, List.find?_cons]
      by_cases e : k' = k
      · subst e; simp [kOf_kD]; exact h
      · have e2 : ¬ (kOf (kD k') = some k) := by rw [kOf_kD]; simpa using e
        simp [e, e2]; simpa using ih t
theorem getT_rep {K : PySem.W.Frag} {w : Wit} {ds : List (D × D)} {vs : List (List L2.Key × V)} (h : RepT K w ds vs) (k : List L2.Key) : OptRep K w (getT ds k) (valV vs k) := by
  unfold getT valV
  induction ds generalizing vs with
  | nil => cases h; exact trivial
  | cons d ds ih =>
    cases h with
    | @cons k' d v ds vs h t =>
      rw [List.find?_cons, List.find?_cons]
      by_cases e : k' = k
      · subst e; simp [tOf, ksOf_kD]; exact h
      · have e2 : ¬ (tOf (.tup (k'.map kD)) = some k) := by simp only [tOf, ksOf_kD]; simpa using e
        simp [e, e2]; simpa using ih t
/-- d at y, if there -/
def lookF : D → D → Option (Option D)
  | .dct kvs, y => (kOf y).map (getK kvs)
  | .dtt kvs, y => (tOf y).map (getT kvs)
  | _, _ => none
theorem look_of {K : PySem.W.Frag} {w : Wit} {H : Hp} {d1 d2 : D} {x y : V} {o : Option D} (hs : ∀ a o, w.F a = some o → H a = some o) (h1 : Vw K w H d1 x) (h2 : Vw K w H d2 y) (e : lookF d1 d2 = some o) : ∃ a o', x = .ref a ∧ DGet H a y o' ∧ OptRep K w o o' := by
  cases h1 with
  | @dK a vs ds h r =>
    simp only [lookF] at e
    cases e1 : kOf d2 with
    | none => rw [e1] at e; cases e
    | some k =>
      rw [e1] at e; cases e
      exact ⟨a, _, rfl, .inl ⟨vs, k, .inl h, kOf_vw h2 e1, rfl⟩, getK_rep r k⟩
  | @dT a vs ds h r =>
    simp only [lookF] at e
    cases h2 with
    | @tup b us es hb rb =>
      simp only [tOf] at e
      cases e1 : ksOf es with
      | none => rw [e1] at e; cases e
      | some k =>
        rw [e1] at e; cases e
        exact ⟨a, _, rfl, .inr ⟨vs, k, b, .inl h, rfl, by rw [← ksOf_reps rb e1]; exact hs _ _ hb, rfl⟩, getT_rep r k⟩
    | _ => cases e
  | _ => cases e

/-! ### x[i] -/
def ixS : D → D → Option D
  | .lst ds, .int i => atI ds i
  | .tup ds, .int i => atI ds i
  | .ctp ds, .int i => atI ds i
  | .str z, .int i => if z.length < LIM then (atI z.cps.toList i).map fun c => .str ⟨#[c]⟩ else none
  | _, _ => none
def ixD (x y : D) : Option D := (lookF x y).bind id
def ixF (x y : D) : Option D := match x with
  | .dct _ => ixD x y
  | .dtt _ => ixD x y
  | _ => ixS x y
theorem Reps.atI {K : PySem.W.Frag} {w : Wit} {ds : List D} {vs : List V} (h : Reps K w ds vs) {i : Int} {d : D} (e : L2.atI ds i = some d) : ∃ v, L2.atI vs i = some v ∧ Rep K w d v := by
  unfold L2.atI at *
  rw [← h.length]
  cases e1 : ixN ds.length i with
  | none => rw [e1] at e; cases e
  | some j => rw [e1] at e; exact h.get e
theorem ixr_seq {X : Cx} : IxR X (r2 X.K .e ixS) := by
  intro value slice pins s σ H x y v u Q I rx ry ⟨w, S, d1, d2, d, g, k1, k2, e, q⟩ hs
  have v1 := k1.vw g
  have v2 := k2.vw g
  generalize deref S d1 = D1 at v1 e
  generalize deref S d2 = D2 at v2 e
  cases v1 with
  | @lst a vs ds h r =>
    cases v2 <;> first | cases e | skip
    obtain ⟨z, ez, rz⟩ := r.atI e
    exact ix_list value slice pins s σ H _ _ v u Q I rx ry ⟨a, vs, _, z, rfl, rfl, h, ez, q _ H w (.refl _ _) g rz⟩ hs
  | @tup a vs ds h r =>
    cases v2 <;> first | cases e | skip
    obtain ⟨z, ez, rz⟩ := r.atI e
    exact ix_tup value slice pins s σ H _ _ v u Q I rx ry ⟨a, vs, _, z, rfl, rfl, SqT.of (g.sub _ _ h), ez, q _ H w (.refl _ _) g rz⟩ hs
  | @ctp a vs ds h r =>
    cases v2 <;> first | cases e | skip
    obtain ⟨z, ez, rz⟩ := r.atI e
    exact ix_tup value slice pins s σ H _ _ v u Q I rx ry ⟨a, vs, _, z, rfl, rfl, SqT.monoF none_le h, ez, q _ H w (.refl _ _) g rz⟩ hs
  | str z =>
    cases v2 <;> first | cases e | skip
    simp only [ixS] at e
    split at e
    · rename_i hl
      cases e1 : L2.atI z.cps.toList _ with
      | none => rw [e1] at e; cases e
      | some c =>
        rw [e1] at e; cases e
        exact ix_str value slice pins s σ H _ _ v u Q I rx ry ⟨z, _, c, rfl, rfl, Nat.le_of_lt (lim_size hl), e1, q _ H w (.refl _ _) g (.str _)⟩ hs
    · cases e
  | _ => cases v2 <;> cases e
section
variable {X : Cx} {W : WZ} {O : List Nat} {a b : Expr} {fa fb : EF} {k ka kb : Kd} {pos : Pos}
theorem e2_or {K : PySem.W.Frag} {g g1 g2 : D → D → Option D} (h : ∀ x y, g x y = g1 x y ∨ g x y = g2 x y) : ∀ σ H Q, rd K k W O (e2 g fa fb) σ H Q → rd K k W O (e2 g1 fa fb) σ H Q ∨ rd K k W O (e2 g2 fa fb) σ H Q := by
  rintro σ H Q ⟨ent, w, ρ, S, r, p⟩
  have : e2 g fa fb ρ S = e2 g1 fa fb ρ S ∨ e2 g fa fb ρ S = e2 g2 fa fb ρ S := by
    unfold e2
    cases fa ρ S with
    | stuck => exact .inl rfl
    | exn x S1 => exact .inl rfl
    | ok d S1 =>
      simp only [Res.bind_ok]
      cases fb ρ S1 with
      | stuck => exact .inl rfl
      | exn x S1 => exact .inl rfl
      | ok d2 S2 =>
        simp only [Res.bind_ok]
        exact (h (deref S2 d) (deref S2 d2)).imp (fun z => by rw [z]) (fun z => by rw [z])
  exact this.imp (fun z => ⟨ent, w, ρ, S, r, by rw [← z]; exact p⟩) (fun z => ⟨ent, w, ρ, S, r, by rw [← z]; exact p⟩)
theorem dget_of {K : PySem.W.Frag} : ∀ σ H Q, rd K .e W O (e2 ixD fa fb) σ H Q → tDGet (rd K ka W O fa) (rd K kb W O fb) σ H Q := by
  rintro σ H Q ⟨ent, w, ρ, S, r, p⟩
  refine ⟨ent, w, ρ, S, r, p.bind fun d S1 v H1 w1 x g1 z p1 => ?_⟩
  refine ⟨ent, w1, ρ, S1, r.later x g1, p1.bind fun d2 S2 v2 H2 w2 x2 g2 z2 p2 => ?_⟩
  have v1 := (z.ext (H1 := H2) x2).vw g2
  have v2 := (z2.ext (H1 := H2) (.refl _ _)).vw g2
  cases e : ixD (deref S2 d) (deref S2 d2) with
  | none => rw [e] at p2; exact p2.elim
  | some d' =>
    rw [e] at p2
    unfold ixD at e
    cases e1 : lookF (deref S2 d) (deref S2 d2) with
    | none => rw [e1] at e; cases e
    | some o =>
      rw [e1] at e
      have eo : o = some d' := e
      subst eo
      obtain ⟨a, o', ex, dg, ro⟩ := look_of g2.sub v1 v2 e1
      cases o' with
      | none => exact ro.elim
      | some v' => exact ⟨a, v', ex, dg, p2 v' H2 w2 (.refl _ _) g2 ro⟩
theorem de_sub (hu : X.A.units + 64 < cLine) (ha : DE ka X W O a fa) (hb : DE kb X W O b fb) (hs : PlainIx b := by exact fun _ _ => rfl) : DE .e X W O (.Subscript a b pos) (e2 ixF fa fb) :=
  ⟨((pe_ix ixr_seq ha.pe hb.pe hs).or (pe_dget (by omega) ha.pe hb.pe hs)).imp fun σ H Q h => (e2_or (g1 := ixS) (g2 := ixD) (fun x y => by cases x <;> first | exact .inl rfl | exact .inr rfl) σ H Q h).imp (tOp_of σ H Q) (dget_of σ H Q)⟩
end

/-! ### slices -/
def optI : D → Option (Option Int)
  | .non => some none
  | .int i => some (some i)
  | _ => none
def PostO (K : PySem.W.Frag) (w : Wit) (H : Hp) (W : WZ) (σ : L2.St) (r : Res) (Q : Option Int → Hp → Prop) : Prop := match r with
  | .ok d S => ∃ o, optI d = some o ∧ ∀ H' w', Ext w H w' H' → Gd K w' H' S → Q o H'
  | .exn x S => ∀ cls dx H' w', Ext w H w' H' → Gd K w' H' S → RepX K w' H' x cls dx → W.wx cls dx σ H'
  | .stuck => False
def rdO (K : PySem.W.Frag) (W : WZ) (O : List Nat) (f : EF) : TO := fun σ H Q => ∃ (ent : Ent W.xc) (w : Wit) (ρ : DEnv) (S : Sto), R K ent O w H σ ρ S ∧ PostO K w H W σ (f ρ S) Q
theorem _root_.L2.PO.imp {X : Cx} {e : Option Expr} {t t' : TO} (h : PO X e t) (i : ∀ σ H Q, t' σ H Q → t σ H Q) : PO X e t' := ⟨fun pins s σ H Q I q => h.run pins s σ H Q I (i σ H Q q)⟩
def ptF : D → Option D
  | .int i => some (.int i)
  | _ => none
structure DO (X : Cx) (W : WZ) (O : List Nat) (e : Option Expr) (f : EF) : Prop where
  po : PO X e (rdO X.K W O f)
theorem do_none {X : Cx} {W : WZ} {O : List Nat} : DO X W O none (eC .non) := ⟨po_none.imp fun σ H Q ⟨ent, w, ρ, S, r, p⟩ => by
  obtain ⟨o, e, p⟩ := p
  cases e
  exact p H w (.refl _ _) r.gd⟩
theorem do_some {X : Cx} {W : WZ} {O : List Nat} {e : Expr} {f : EF} {k : Kd} (h : DE k X W O e f) : DO X W O (some e) (e1 ptF f) := ⟨(po_some h.pe).imp fun σ H Q ⟨ent, w, ρ, S, r, p⟩ => by
  refine ⟨ent, w, ρ, S, r, ?_⟩
  unfold e1 at p
  cases e : f ρ S with
  | stuck => rw [e] at p; exact p
  | exn x S1 => rw [e] at p; exact p
  | ok d S1 =>
    rw [e] at p
    intro v H' w' x g z
    have vw := (z.ext (H1 := H') (.refl _ _)).vw g
    simp only [Res.bind_ok] at p
    generalize deref S1 d = d' at p vw
    cases vw with
    | int i =>
      obtain ⟨o, eo, p⟩ := p
      cases eo
      exact ⟨i, rfl, p H' w' x g⟩
    | _ => exact p.elim⟩
def wholeD (n : Nat) (lo hi : Option Int) : Bool := decide (HT.sIx n 0 lo = 0) && decide (HT.sIx n n hi = n)
def cutD (ds : List D) (lo hi : Option Int) : List D := (ds.drop (HT.sIx ds.length 0 lo)).take (HT.sIx ds.length ds.length hi - HT.sIx ds.length 0 lo)
def slF (x : D) (lo hi : Option Int) : Option D := match x with
  | .lst ds => some (.lst (cutD ds lo hi))
  | .tup ds => some (.tup (cutD ds lo hi))
  | .ctp ds => if wholeD ds.length lo hi then some (.ctp ds) else some (.tup (cutD ds lo hi))
  | .str z => if z.length < LIM then some (.str (cutS z lo hi)) else none
  | _ => none
def slL (x : D) (lo hi : Option Int) : Option D := match x with
  | .lst ds => some (.lst (cutD ds lo hi))
  | _ => none
def rSl (K : PySem.W.Frag) (k : Kd) (g : D → Option Int → Option Int → Option D) : V → Option Int → Option Int → Hp → VK → Prop := fun x lo hi H Q => ∃ w S d1 d, Gd K w H S ∧ KP K .b H w H d1 x ∧ g (deref S d1) lo hi = some d ∧ ∀ v H' w', Ext w H w' H' → Gd K w' H' S → KP K k H w' H' d v → Q v H'
theorem Reps.cut {K : PySem.W.Frag} {w : Wit} {ds : List D} {vs : List V} (h : Reps K w ds vs) (lo hi : Option Int) : Reps K w (cutD ds lo hi) (cutV vs lo hi) := by
  unfold cutD cutV
  rw [h.length]
  exact (h.drop _).take _
theorem cut_whole {ds : List D} {lo hi : Option Int} (h1 : HT.sIx ds.length 0 lo = 0) (h2 : HT.sIx ds.length ds.length hi = ds.length) : cutD ds lo hi = ds := by
  unfold cutD; rw [h1, h2]; simp
theorem slr_f {X : Cx} : SlR X (rSl X.K .f slL) := by
  intro pins s σ H x v vl vu lo hi sl Q I rx hsl hl hh ⟨w, S, d1, d, g, k1, e, q⟩
  have v1 := k1.vw g
  generalize deref S d1 = D1 at v1 e
  cases v1 with
  | @lst a vs ds h r =>
    cases e
    exact sl_list pins s σ H _ v vl vu lo hi sl Q I rx hsl hl hh ⟨a, vs, rfl, h, fun p np => q _ _ w (Ext.newO w np) (g.newO np) ⟨p, rfl, np, g.noneF np, g.nophi np, _, upd_same, r.cut lo hi⟩⟩
  | _ => cases e
theorem slr_e {X : Cx} : SlR X (rSl X.K .e slF) := by
  intro pins s σ H x v vl vu lo hi sl Q I rx hsl hl hh ⟨w, S, d1, d, g, k1, e, q⟩
  have v1 := k1.vw g
  generalize deref S d1 = D1 at v1 e
  cases v1 with
  | @lst a vs ds h r =>
    cases e
    exact sl_list pins s σ H _ v vl vu lo hi sl Q I rx hsl hl hh ⟨a, vs, rfl, h, fun p np => q _ _ (w.new p (.lst (cutV vs lo hi))) (Ext.newF g np) (g.new np) (.lst (.inl (.inl upd_same)) ((r.cut lo hi).mono (Le.new (g.noneF np))))⟩
  | @tup a vs ds h r =>
    cases e
    refine sl_tupA pins s σ H _ v vl vu lo hi sl Q I rx hsl hl hh ⟨a, vs, rfl, SqT.of (g.sub _ _ h), fun hc => ?_, fun _ p np => ?_⟩
    · rw [← r.length] at hc
      rw [cut_whole hc.1 hc.2] at q
      exact q _ H w (.refl _ _) g (.tup h r)
    · exact q _ _ (w.new p (.tup (cutV vs lo hi))) (Ext.newF g np) (g.new np) (.tup upd_same ((r.cut lo hi).mono (Le.new (g.noneF np))))
  | @ctp a vs ds h r =>
    simp only [slF] at e
    refine sl_tupA pins s σ H _ v vl vu lo hi sl Q I rx hsl hl hh ⟨a, vs, rfl, SqT.monoF none_le h, fun hc => ?_, fun hc p np => ?_⟩
    · rw [← r.length] at hc
      rw [if_pos (by simp [wholeD, hc.1, hc.2])] at e
      cases e
      exact q _ H w (.refl _ _) g (.ctp h r)
    · rw [← r.length] at hc
      rw [if_neg (by simpa [wholeD] using hc)] at e
      cases e
      exact q _ _ (w.new p (.tup (cutV vs lo hi))) (Ext.newF g np) (g.new np) (.tup upd_same ((r.cut lo hi).mono (Le.new (g.noneF np))))
  | str z =>
    simp only [slF] at e
    split at e
    · rename_i hl'
      cases e
      exact sl_str pins s σ H _ v vl vu lo hi sl Q I rx hsl hl hh ⟨z, rfl, Nat.le_of_lt (lim_size hl'), q _ H w (.refl _ _) g (.str _)⟩
    · cases e
  | _ => cases e
def eSl (g : D → Option Int → Option Int → Option D) (fa fl fh : EF) : EF := fun ρ S => (fa ρ S).bind fun x S1 => (fl ρ S1).bind fun l S2 => match optI l with
  | none => .stuck
  | some lo => (fh ρ S2).bind fun h S3 => match optI h with
    | none => .stuck
    | some hi => .ofOpt (g (deref S3 x) lo hi) S3
section
variable {X : Cx} {W : WZ} {O : List Nat} {e : Expr} {lo hi : Option Expr} {fa fl fh : EF} {k ka : Kd} {pos p2 : Pos} {g : D → Option Int → Option Int → Option D}
theorem de_slG (hr : SlR X (rSl X.K k g)) (ha : DE ka X W O e fa) (hl : DO X W O lo fl) (hh : DO X W O hi fh) : DE k X W O (.Subscript e (.Slice lo hi none p2) pos) (eSl g fa fl fh) := by
  refine ⟨(pe_slice hr ha.pe hl.po hh.po).imp ?_⟩
  rintro σ H Q ⟨ent, w, ρ, S, r, p⟩
  refine ⟨ent, w, ρ, S, r, p.bind fun d S1 v H1 w1 x g1 z p1 => ?_⟩
  refine ⟨ent, w1, ρ, S1, r.later x g1, ?_⟩
  cases e2 : fl ρ S1 with
  | stuck => rw [e2] at p1; exact p1
  | exn y S2 => rw [e2] at p1; exact p1
  | ok l S2 =>
    rw [e2] at p1
    simp only [Res.bind_ok] at p1
    cases el : optI l with
    | none => rw [el] at p1; exact p1.elim
    | some lo' =>
      rw [el] at p1
      refine ⟨lo', el, fun H2 w2 x2 g2 => ⟨ent, w2, ρ, S2, (r.later x g1).later x2 g2, ?_⟩⟩
      have p2 := Post.later x2 p1
      cases e3 : fh ρ S2 with
      | stuck => simp only [e3] at p2; exact p2
      | exn y S3 => simp only [e3] at p2; exact p2
      | ok h S3 =>
        simp only [e3, Res.bind_ok] at p2
        cases eh : optI h with
        | none => simp only [eh] at p2; exact p2.elim
        | some hi' =>
          simp only [eh] at p2
          refine ⟨hi', eh, fun H3 w3 x3 g3 => ?_⟩
          cases e4 : g (deref S3 d) lo' hi' with
          | none => rw [e4] at p2; exact p2.elim
          | some d' =>
            rw [e4] at p2
            exact ⟨w3, S3, d, d', g3, z.ext (x2.trans x3), e4, Post.later (r := .ok d' S3) x3 p2⟩
theorem de_sl (ha : DE ka X W O e fa) (hl : DO X W O lo fl) (hh : DO X W O hi fh) : DE .e X W O (.Subscript e (.Slice lo hi none p2) pos) (eSl slF fa fl fh) := de_slG slr_e ha hl hh
theorem de_slf (ha : DE ka X W O e fa) (hl : DO X W O lo fl) (hh : DO X W O hi fh) : DE .f X W O (.Subscript e (.Slice lo hi none p2) pos) (eSl slL fa fl fh) := de_slG slr_f ha hl hh
def revF : D → Option D
  | .lst ds => some (.lst ds.reverse)
  | _ => none
theorem rev_of {K : PySem.W.Frag} : ∀ σ H Q, rd K .f W O (e1 revF fa) σ H Q → tRevL K (rd K ka W O fa) σ H Q := by
  rintro σ H Q ⟨ent, w, ρ, S, r, p⟩
  refine ⟨ent, w, ρ, S, r, p.bind fun d S1 v H1 w1 x g1 z p1 => ?_⟩
  have v1 := (z.ext (H1 := H1) (.refl _ _)).vw g1
  generalize deref S1 d = D1 at v1 p1
  cases v1 with
  | @lst a vs ds h rr => exact ⟨a, vs, rfl, h, fun p np => p1 _ _ w1 (Ext.newO w1 np) (g1.newO np) ⟨p, rfl, np, g1.noneF np, g1.nophi np, _, upd_same, rr.reverse⟩⟩
  | _ => exact p1.elim
theorem de_rev {kk : Nat} {p1 p2 p3 : Pos} (ha : DE ka X W O e fa) : DE .f X W O (.Subscript e (.Slice none none (some (.UnaryOp .USub (.Constant (.int 1) kk p1) p2)) p3) pos) (e1 revF fa) := ⟨(pe_revL ha.pe).imp rev_of⟩
end

/-! ### in -/
theorem flat_of {K : PySem.W.Frag} {w : Wit} {H : Hp} {d : D} {v : V} (h : Vw K w H d v) (f : flatD d = true) : flatV v = true := by
  cases h <;> first | rfl | cases f
theorem flat_ofR {K : PySem.W.Frag} {w : Wit} {d : D} {v : V} (h : Rep K w d v) (f : flatD d = true) : flatV v = true := by
  cases h <;> first | rfl | cases f
theorem eqV_of {K : PySem.W.Frag} {w : Wit} {H : Hp} {d1 d2 : D} {x y : V} (h1 : Rep K w d1 x) (h2 : Vw K w H d2 y) (f1 : flatD d1 = true) (f2 : flatD d2 = true) : eqV x y = eqD d1 d2 := by
  cases h1 <;> first | cases f1 | skip
  all_goals (cases h2 <;> first | cases f2 | skip)
  all_goals simp [eqV, eqD, toPy, PyData.eqv]
theorem flats_of {K : PySem.W.Frag} {w : Wit} {ds : List D} {vs : List V} (h : Reps K w ds vs) (f : ds.all flatD = true) : vs.all flatV = true := by
  induction ds generalizing vs with
  | nil => cases h; rfl
  | cons d ds ih =>
    cases h with
    | cons h t =>
      simp only [List.all_cons, Bool.and_eq_true] at f ⊢
      exact ⟨flat_ofR h f.1, ih t f.2⟩
theorem inV_of {K : PySem.W.Frag} {w : Wit} {H : Hp} {d : D} {x : V} {ds : List D} {vs : List V} (h : Reps K w ds vs) (hx : Vw K w H d x) (fx : flatD d = true) (f : ds.all flatD = true) : inV x vs = ds.any fun y => eqD y d := by
  unfold inV
  induction ds generalizing vs with
  | nil => cases h; rfl
  | cons d ds ih =>
    cases h with
    | cons h t =>
      simp only [List.all_cons, Bool.and_eq_true] at f
      simp only [List.any_cons]
      rw [eqV_of h hx f.1 fx, ih t f.2]
def inSq (x : D) (ds : List D) : Option Bool :=
  if (flatD x && ds.all flatD) = true ∨ (shD x && shD (.lst ds)) = true then some (ds.any fun y => eqD y x) else none
def inB (x y : D) : Option Bool := match y with
  | .lst ds => inSq x ds
  | .tup ds => inSq x ds
  | .ctp ds => inSq x ds
  | .dct kvs => (lookF (.dct kvs) x).map (·.isSome)
  | .dtt kvs => (lookF (.dtt kvs) x).map (·.isSome)
  | _ => none
def inF (x y : D) : Option D := (inB x y).map .bl
def notInF (x y : D) : Option D := (inB x y).map fun b => .bl (!b)
theorem any_toPy (ds : List D) (d : D) : ((toPys ds).any fun z => PyData.eqv z (toPy d)) = ds.any fun y => eqD y d := by
  rw [toPys_map]; simp [eqD, List.any_map]; rfl
/-- in a tuple, at any depth -/
def rInT (K : PySem.W.Frag) (neg : Bool) : R2 := fun x y H Q => ∃ d ds, Dp K H x d ∧ Dp K H y (.tuple ds) ∧ SeqAt.shaped d = true ∧ SeqAt.shaped (.tuple ds) = true ∧ Q (.bl (if neg then !ds.any fun z => PyData.eqv z d else ds.any fun z => PyData.eqv z d)) H
theorem shaped_tup {ds : List PyData} (h : SeqAt.shaped (.tuple ds) = true) : PyData.canLayAll0 ds = true ∧ PyData.depthAll ds + 1 ≤ 64 := by
  simp only [SeqAt.shaped, Bool.and_eq_true, decide_eq_true_eq, PyData.canLay0, PyData.depth] at h
  exact ⟨h.1, of_decide_eq_true h.2⟩
section
variable {X : Cx}
theorem op_inT (hu : X.A.units + 64 < cLine) : OpR X (compareOp .In) (rInT X.K false) := by
  intro pins s σ H x y v u Q I rx ry ⟨d, ds, hx, hy, s1, s2, q⟩
  obtain ⟨as, r1⟩ := Dp.reads I _ _ _ hx rx
  obtain ⟨bs, r2⟩ := Dp.reads I _ _ _ hy ry
  have s2' := shaped_tup s2
  have s1' := Bool.and_eq_true_iff.mp s1
  have s1d : d.depth ≤ 64 := by simpa using s1'.2
  exact SeqAt.in_tuple_reads r2 r1 s2'.1 s1'.1 (by have := Nat.min_le_left (PyData.depthAll ds) d.depth; have := s2'.2; omega) ⟨.bl _, H, I, rfl, q⟩
theorem op_notInT (hu : X.A.units + 64 < cLine) : OpR X (compareOp .NotIn) (rInT X.K true) := by
  intro pins s σ H x y v u Q I rx ry ⟨d, ds, hx, hy, s1, s2, q⟩
  obtain ⟨as, r1⟩ := Dp.reads I _ _ _ hx rx
  obtain ⟨bs, r2⟩ := Dp.reads I _ _ _ hy ry
  have s2' := shaped_tup s2
  have s1' := Bool.and_eq_true_iff.mp s1
  exact SeqAt.notIn_tuple_reads r2 r1 s2'.1 s1'.1 (by have := Nat.min_le_left (PyData.depthAll ds) d.depth; have := s2'.2; omega) ⟨.bl _, H, I, rfl, q⟩
theorem inSq_of {K : PySem.W.Frag} {w : Wit} {H : Hp} {dx : D} {x : V} {ds : List D} {vs : List V} {b : Bool} (h : Reps K w ds vs) (hx : Vw K w H dx x) (e : inSq dx ds = some b) :
    (flatV x = true ∧ vs.all flatV = true ∧ inV x vs = b) ∨ (shD dx = true ∧ shD (.lst ds) = true ∧ ((toPys ds).any fun z => PyData.eqv z (toPy dx)) = b) := by
  unfold inSq at e
  split at e
  · rename_i hc
    cases e
    rcases hc with hc | hc
    · have := Bool.and_eq_true_iff.mp hc
      exact .inl ⟨flat_of hx this.1, flats_of h this.2, inV_of h hx this.1 this.2⟩
    · have := Bool.and_eq_true_iff.mp hc
      exact .inr ⟨this.1, this.2, any_toPy ds dx⟩
  · cases e
theorem sh_lst_tup {ds : List D} (h : shD (.lst ds) = true) : shD (.tup ds) = true := by
  simp only [shD, plD, toPy, SeqAt.shaped, PyData.canLay0, PyData.depth] at h ⊢
  exact h
theorem sh_lst_ctp {ds : List D} (h : shD (.lst ds) = true) : shD (.ctp ds) = true := by
  simp only [shD, plD, toPy, SeqAt.shaped, PyData.canLay0, PyData.depth] at h ⊢
  exact h
theorem op_inG (hu : X.A.units + 65 < cLine) (neg : Bool) (op : CmpOp) (h1 : OpR X (compareOp op) (rIn X.K neg))
    (h2 : OpR X (compareOp op) (fun x y H Q => ∃ d ds, Dp X.K H x d ∧ Dp X.K H y (.list ds) ∧ SeqAt.shaped d = true ∧ SeqAt.shaped (.list ds) = true ∧ Q (.bl (if neg then !ds.any fun z => PyData.eqv z d else ds.any fun z => PyData.eqv z d)) H))
    (h3 : OpR X (compareOp op) (rInT X.K neg))
    (h4 : ∀ {pins : List (Addr × Obj)} {σ : L2.St} {H : Hp} {s : Shared} {a : Addr} {y : V} {u : Value} {o : Option V} {Q : Value → Shared → Prop}, L2.Inv X pins σ H s → DGet H a y o → L2.RelV y u → (∀ s', L2.Inv X pins σ H s' → Q (Value.bool (if neg then !o.isSome else o.isSome)) s') → wpAny (model X.prog X.w) X.A (compareOp op u (Value.ref a)) Q X.xe s) :
    OpR X (compareOp op) (r2 X.K .e fun x y => (inB x y).map fun b => .bl (if neg then !b else b)) := by
  intro pins s σ H x y v u Q I rx ry ⟨w, S, d1, d2, d, g, k1, k2, e, q⟩
  have v1 := k1.vw g
  have v2 := k2.vw g
  generalize deref S d1 = D1 at v1 e
  generalize deref S d2 = D2 at v2 e
  dsimp only at e
  cases eb : inB D1 D2 with
  | none => rw [eb] at e; cases e
  | some b =>
    rw [eb] at e
    have hb : d = .bl (if neg then !b else b) := by simpa using e.symm
    subst hb
    have dict : ∀ kd, D2 = kd → (lookF kd D1).map (·.isSome) = some b → wpAny (model X.prog X.w) X.A (compareOp op v u) (EP X pins σ Q) X.xe s := by
      rintro kd rfl el
      cases eo : lookF D2 D1 with
      | none => rw [eo] at el; cases el
      | some o =>
        rw [eo] at el
        have ei : o.isSome = b := by simpa using el
        obtain ⟨a, o', ea, dg, ro⟩ := look_of g.sub v2 v1 eo
        subst ea
        have eu : u = .ref a := ry
        subst eu
        refine h4 I dg rx fun s' I' => ⟨.bl _, H, I', rfl, ?_⟩
        have : o'.isSome = b := by
          rw [← ei]
          cases o <;> cases o' <;> first | rfl | exact ro.elim
        rw [this]
        exact q _ H w (.refl _ _) g (.bl _)
    cases v2 with
    | @lst a vs ds h r =>
      rcases inSq_of r v1 eb with ⟨f1, f2, f3⟩ | ⟨f1, f2, f3⟩
      · exact h1 pins s σ H _ _ v u Q I rx ry ⟨a, vs, rfl, .inl h, f1, f2, by rw [f3]; exact q _ H w (.refl _ _) g (.bl _)⟩
      · have t1 := Bool.and_eq_true_iff.mp f1
        have t2 := Bool.and_eq_true_iff.mp f2
        refine h2 pins s σ H _ _ v u Q I rx ry ⟨_, toPys ds, v1.dp g.sub t1.1, .lst h (Reps.dp g.sub r (by simpa [plD] using t2.1)), t1.2, by simpa [toPy] using t2.2, ?_⟩
        rw [f3]
        exact q _ H w (.refl _ _) g (.bl _)
    | @tup a vs ds h r =>
      rcases inSq_of r v1 eb with ⟨f1, f2, f3⟩ | ⟨f1, f2, f3⟩
      · exact h1 pins s σ H _ _ v u Q I rx ry ⟨a, vs, rfl, .inr (SqT.of (g.sub _ _ h)), f1, f2, by rw [f3]; exact q _ H w (.refl _ _) g (.bl _)⟩
      · have t1 := Bool.and_eq_true_iff.mp f1
        have t2 := Bool.and_eq_true_iff.mp (sh_lst_tup f2)
        refine h3 pins s σ H _ _ v u Q I rx ry ⟨_, toPys ds, v1.dp g.sub t1.1, .tup (SqT.of (g.sub _ _ h)) (Reps.dp g.sub r (by simpa [plD] using t2.1)), t1.2, by simpa [toPy] using t2.2, ?_⟩
        rw [f3]
        exact q _ H w (.refl _ _) g (.bl _)
    | @ctp a vs ds h r =>
      rcases inSq_of r v1 eb with ⟨f1, f2, f3⟩ | ⟨f1, f2, f3⟩
      · exact h1 pins s σ H _ _ v u Q I rx ry ⟨a, vs, rfl, .inr (SqT.monoF none_le h), f1, f2, by rw [f3]; exact q _ H w (.refl _ _) g (.bl _)⟩
      · have t1 := Bool.and_eq_true_iff.mp f1
        have t2 := Bool.and_eq_true_iff.mp (sh_lst_ctp f2)
        refine h3 pins s σ H _ _ v u Q I rx ry ⟨_, toPys ds, v1.dp g.sub t1.1, .tup (SqT.monoF none_le h) (Reps.dp g.sub r (by simpa [plD] using t2.1)), t1.2, by simpa [toPy] using t2.2, ?_⟩
        rw [f3]
        exact q _ H w (.refl _ _) g (.bl _)
    | dK h r => exact dict _ rfl eb
    | dT h r => exact dict _ rfl eb
    | _ => cases eb
theorem op_ind (hu : X.A.units + 65 < cLine) : OpR X (compareOp .In) (r2 X.K .e inF) := by
  have := op_inG hu false .In op_in_seq (op_inD hu) (op_inT (by omega)) (fun I dg r h => d_in (by omega) I dg r h)
  simp only [Bool.false_eq_true, if_false] at this
  exact this
theorem op_notInd (hu : X.A.units + 65 < cLine) : OpR X (compareOp .NotIn) (r2 X.K .e notInF) := by
  have := op_inG hu true .NotIn op_notIn_seq (op_notInD hu) (op_notInT (by omega)) (fun I dg r h => d_notIn (by omega) I dg r h)
  simp only [if_true] at this
  exact this
end
end DL

/-! calls of what is built in -/
namespace DL
open PySem PySem.Spec PyProof.Rows L2

def VwN (K : PySem.W.Frag) (w : Wit) (H : Hp) : List D → List V → Prop
  | [], [] => True
  | a :: r, x :: s => Vw K w H a x ∧ VwN K w H r s
  | _, _ => False
theorem KPs.vw {K : PySem.W.Frag} {w : Wit} {H : Hp} {S : Sto} (g : Gd K w H S) {ds : List D} {vs : List V} (h : KPs K w H ds vs) : VwN K w H (ds.map (deref S)) vs := by
  induction h with
  | nil => exact trivial
  | cons h t ih => exact ⟨h.vw g, ih⟩
theorem VwN.one {K : PySem.W.Frag} {w : Wit} {H : Hp} {a : D} : ∀ {xs : List V}, VwN K w H [a] xs → ∃ x, xs = [x] ∧ Vw K w H a x
  | [], h => h.elim
  | [x], h => ⟨x, rfl, h.1⟩
  | _ :: _ :: _, h => h.2.elim
theorem VwN.two {K : PySem.W.Frag} {w : Wit} {H : Hp} {a b : D} : ∀ {xs : List V}, VwN K w H [a, b] xs → ∃ x y, xs = [x, y] ∧ Vw K w H a x ∧ Vw K w H b y
  | [], h => h.elim
  | [x], h => h.2.elim
  | [x, y], h => ⟨x, y, rfl, h.1, h.2.1⟩
  | _ :: _ :: _ :: _, h => h.2.2.elim
def f1 (g : D → Option D) : List D → Option D
  | [d] => g d
  | _ => none
def f2 (g : D → D → Option D) : List D → Option D
  | [d1, d2] => g d1 d2
  | _ => none
theorem f1_some {g : D → Option D} : ∀ {es : List D} {d : D}, f1 g es = some d → ∃ a, es = [a] ∧ g a = some d
  | [], _, h => by cases h
  | [a], _, h => ⟨a, rfl, h⟩
  | _ :: _ :: _, _, h => by cases h
theorem f2_some {g : D → D → Option D} : ∀ {es : List D} {d : D}, f2 g es = some d → ∃ a b, es = [a, b] ∧ g a b = some d
  | [], _, h => by cases h
  | [_], _, h => by cases h
  | [a, b], _, h => ⟨a, b, rfl, h⟩
  | _ :: _ :: _ :: _, _, h => by cases h
section
variable {X : Cx}
/-- one argument -/
theorem call1 {f : Value} {k : Kd} {g : D → Option D} (h : ∀ (pins : List (Addr × Obj)) (s : Shared) (σ : L2.St) (H : Hp) (x : V) (u : Value) (Q : VK) (w : Wit) (S : Sto) (d d' : D), L2.Inv X pins σ H s → L2.RelV x u → Gd X.K w H S → Vw X.K w H d x → g d = some d' →
      (∀ v H' w', Ext w H w' H' → Gd X.K w' H' S → KP X.K k H w' H' d' v → Q v H') → wpAny (model X.prog X.w) X.A (call f [u]) (EP X pins σ Q) X.xe s) :
    CallR X f (rN X.K k (f1 g)) := by
  intro pins s σ H xs us Q I rx ⟨w, S, ds, d, gd, ks, e, q⟩
  have vw := ks.vw gd
  obtain ⟨a, ea, e⟩ := f1_some e
  rw [ea] at vw
  obtain ⟨x, rfl, vx⟩ := vw.one
  cases rx with
  | cons r t => cases t; exact h pins s σ H x _ Q w S a d I r gd vx e q
theorem call2 {f : Value} {k : Kd} {g : D → D → Option D} (h : ∀ (pins : List (Addr × Obj)) (s : Shared) (σ : L2.St) (H : Hp) (x y : V) (u v : Value) (Q : VK) (w : Wit) (S : Sto) (d1 d2 d' : D), L2.Inv X pins σ H s → L2.RelV x u → L2.RelV y v → Gd X.K w H S → Vw X.K w H d1 x → Vw X.K w H d2 y → g d1 d2 = some d' →
      (∀ v H' w', Ext w H w' H' → Gd X.K w' H' S → KP X.K k H w' H' d' v → Q v H') → wpAny (model X.prog X.w) X.A (call f [u, v]) (EP X pins σ Q) X.xe s) :
    CallR X f (rN X.K k (f2 g)) := by
  intro pins s σ H xs us Q I rx ⟨w, S, ds, d, gd, ks, e, q⟩
  have vw := ks.vw gd
  obtain ⟨a, b, ea, e⟩ := f2_some e
  rw [ea] at vw
  obtain ⟨x, y, rfl, vx, vy⟩ := vw.two
  cases rx with
  | cons r t => cases t with
    | cons r2 t2 => cases t2; exact h pins s σ H x y _ _ Q w S a b d I r r2 gd vx vy e q

/-! ### len -/
def lenF : D → Option D
  | .lst ds => some (.int ds.length)
  | .tup ds => some (.int ds.length)
  | .ctp ds => some (.int ds.length)
  | .dct ds => some (.int ds.length)
  | .dtt ds => some (.int ds.length)
  | .str z => if z.length < LIM then some (.int z.length) else none
  | _ => none
theorem RepK.length {K : PySem.W.Frag} {w : Wit} {ds : List (D × D)} {vs : List (L2.Key × V)} (h : RepK K w ds vs) : ds.length = vs.length := by
  induction ds generalizing vs with
  | nil => cases h; rfl
  | cons d ds ih => cases h with | cons h t => simp [ih t]
theorem RepT.length {K : PySem.W.Frag} {w : Wit} {ds : List (D × D)} {vs : List (List L2.Key × V)} (h : RepT K w ds vs) : ds.length = vs.length := by
  induction ds generalizing vs with
  | nil => cases h; rfl
  | cons d ds ih => cases h with | cons h t => simp [ih t]
theorem cr_len : CallR X (.builtin "len") (rN X.K .e (f1 lenF)) := by
  refine call1 fun pins s σ H x u Q w S d d' I r g v e q => ?_
  have rv : Vals [x] [u] := .cons r .nil
  cases v with
  | lst h rr => cases e; exact call_len_seq pins s σ H [_] [u] Q I rv ⟨_, _, rfl, .inl h, by rw [← rr.length]; exact q _ H w (.refl _ _) g (.int _)⟩
  | tup h rr => cases e; exact call_len_seq pins s σ H [_] [u] Q I rv ⟨_, _, rfl, .inr (SqT.of (g.sub _ _ h)), by rw [← rr.length]; exact q _ H w (.refl _ _) g (.int _)⟩
  | ctp h rr => cases e; exact call_len_seq pins s σ H [_] [u] Q I rv ⟨_, _, rfl, .inr (SqT.monoF none_le h), by rw [← rr.length]; exact q _ H w (.refl _ _) g (.int _)⟩
  | dK h rr => cases e; exact call_lenD pins s σ H [_] [u] Q I rv ⟨_, _, rfl, h, by rw [← rr.length]; exact q _ H w (.refl _ _) g (.int _)⟩
  | dT h rr => cases e; exact call_len_dT pins s σ H [_] [u] Q I rv ⟨_, _, rfl, h, by rw [← rr.length]; exact q _ H w (.refl _ _) g (.int _)⟩
  | str z =>
    simp only [lenF] at e
    split at e
    · rename_i hl
      cases e
      exact call_len_str pins s σ H [_] [u] Q I rv ⟨z, rfl, Nat.le_of_lt (lim_size hl), q _ H w (.refl _ _) g (.int _)⟩
    · cases e
  | _ => cases e

/-! ### tuple(..), list(..) -/
def tupF : D → Option D
  | .lst ds => some (.tup ds)
  | .tup ds => some (.tup ds)
  | .ctp ds => some (.ctp ds)
  | _ => none
theorem cr_tup : CallR X (.type "tuple") (rN X.K .e (f1 tupF)) := by
  refine call1 fun pins s σ H x u Q w S d d' I r g v e q => ?_
  have rv : Vals [x] [u] := .cons r .nil
  cases v with
  | @lst a vs ds h rr => cases e; exact call_tuple_of pins s σ H [_] [u] Q I rv ⟨_, _, rfl, .inl ⟨h, fun p np => q _ _ (w.new p (.tup vs)) (Ext.newF g np) (g.new np) (.tup upd_same (rr.mono (Le.new (g.noneF np))))⟩⟩
  | tup h rr => cases e; exact call_tuple_of pins s σ H [_] [u] Q I rv ⟨_, _, rfl, .inr ⟨SqT.of (g.sub _ _ h), q _ H w (.refl _ _) g (.tup h rr)⟩⟩
  | ctp h rr => cases e; exact call_tuple_of pins s σ H [_] [u] Q I rv ⟨_, _, rfl, .inr ⟨SqT.monoF none_le h, q _ H w (.refl _ _) g (.ctp h rr)⟩⟩
  | _ => cases e
def lstF : D → Option D
  | .lst ds => some (.lst ds)
  | .tup ds => some (.lst ds)
  | .ctp ds => some (.lst ds)
  | .dct kvs => some (.lst (kvs.map (·.1)))
  | _ => none
theorem rep_key {K : PySem.W.Frag} {w : Wit} (k : L2.Key) : Rep K w (kD k) (kV k) := by cases k with
  | inl i => exact .int i
  | inr x => exact .str x
theorem reps_key {K : PySem.W.Frag} {w : Wit} : ∀ ks : List L2.Key, Reps K w (ks.map kD) (ks.map kV)
  | [] => .nil
  | k :: ks => .cons (rep_key k) (reps_key ks)
theorem RepK.keys {K : PySem.W.Frag} {w w' : Wit} {ds : List (D × D)} {vs : List (L2.Key × V)} (h : RepK K w ds vs) : Reps K w' (ds.map (·.1)) (vs.map fun kv => kV kv.1) := by
  induction ds generalizing vs with
  | nil => cases h; exact .nil
  | cons d ds ih => cases h with | cons h t => exact .cons (rep_key _) (ih t)
theorem cr_lst (hc : X.calm = true) : CallR X (.type "list") (rN X.K .f (f1 lstF)) := by
  refine call1 fun pins s σ H x u Q w S d d' I r g v e q => ?_
  have rv : Vals [x] [u] := .cons r .nil
  cases v with
  | lst h rr => cases e; exact call_list_of pins s σ H [_] [u] Q I rv ⟨_, _, rfl, .inl h, fun p np => q _ _ w (Ext.newO w np) (g.newO np) ⟨p, rfl, np, g.noneF np, g.nophi np, _, upd_same, rr⟩⟩
  | tup h rr => cases e; exact call_list_of pins s σ H [_] [u] Q I rv ⟨_, _, rfl, .inr (SqT.of (g.sub _ _ h)), fun p np => q _ _ w (Ext.newO w np) (g.newO np) ⟨p, rfl, np, g.noneF np, g.nophi np, _, upd_same, rr⟩⟩
  | ctp h rr => cases e; exact call_list_of pins s σ H [_] [u] Q I rv ⟨_, _, rfl, .inr (SqT.monoF none_le h), fun p np => q _ _ w (Ext.newO w np) (g.newO np) ⟨p, rfl, np, g.noneF np, g.nophi np, _, upd_same, rr⟩⟩
  | dK h rr => cases e; exact call_listD hc pins s σ H [_] [u] Q I rv ⟨_, _, rfl, .inl h, fun p np => q _ _ w (Ext.newO w np) (g.newO np) ⟨p, rfl, np, g.noneF np, g.nophi np, _, upd_same, rr.keys⟩⟩
  | _ => cases e

/-! ### int(..), sum, all, any, min, max -/
def intF : D → Option D
  | .int i => some (.int i)
  | .bl b => some (.int (if b then 1 else 0))
  | _ => none
theorem cr_int : CallR X (.type "int") (rN X.K .e (f1 intF)) := by
  refine call1 fun pins s σ H x u Q w S d d' I r g v e q => ?_
  have rv : Vals [x] [u] := .cons r .nil
  cases v with
  | int i => cases e; exact call_int1 pins s σ H [_] [u] Q I rv (.inl ⟨i, rfl, q _ H w (.refl _ _) g (.int _)⟩)
  | bl b => cases e; exact call_int1 pins s σ H [_] [u] Q I rv (.inr ⟨b, rfl, q _ H w (.refl _ _) g (.int _)⟩)
  | _ => cases e
def intsOf : List D → Option (List Int)
  | [] => some []
  | .int i :: ds => (intsOf ds).map (i :: ·)
  | _ :: _ => none
def blsOf : List D → Option (List Bool)
  | [] => some []
  | .bl i :: ds => (blsOf ds).map (i :: ·)
  | _ :: _ => none
theorem ints_of {K : PySem.W.Frag} {w : Wit} {ds : List D} {vs : List V} (h : Reps K w ds vs) : ∀ {ns : List Int}, intsOf ds = some ns → vs = ns.map V.int := by
  induction ds generalizing vs with
  | nil => intro ns e; cases h; cases e; rfl
  | cons d ds ih =>
    intro ns e
    cases h with
    | cons h t =>
      cases h <;> simp only [intsOf] at e <;> first | cases e | skip
      cases e2 : intsOf ds with
      | none => rw [e2] at e; cases e
      | some ms => rw [e2] at e; cases e; rw [ih t e2]; rfl
theorem bls_of {K : PySem.W.Frag} {w : Wit} {ds : List D} {vs : List V} (h : Reps K w ds vs) : ∀ {ns : List Bool}, blsOf ds = some ns → vs = ns.map V.bl := by
  induction ds generalizing vs with
  | nil => intro ns e; cases h; cases e; rfl
  | cons d ds ih =>
    intro ns e
    cases h with
    | cons h t =>
      cases h <;> simp only [blsOf] at e <;> first | cases e | skip
      cases e2 : blsOf ds with
      | none => rw [e2] at e; cases e
      | some ms => rw [e2] at e; cases e; rw [ih t e2]; rfl
def sumF : D → Option D
  | .lst ds => (intsOf ds).map fun ns => .int ns.sum
  | _ => none
def allF : D → Option D
  | .lst ds => (blsOf ds).map fun ns => .bl (ns.all id)
  | _ => none
def anyF : D → Option D
  | .lst ds => (blsOf ds).map fun ns => .bl (ns.any id)
  | _ => none
theorem cr_sumD (hc : X.calm = true) : CallR X (.builtin "sum") (rN X.K .e (f1 sumF)) := by
  refine call1 fun pins s σ H x u Q w S d d' I r g v e q => ?_
  have rv : Vals [x] [u] := .cons r .nil
  cases v with
  | @lst a vs ds h rr =>
    simp only [sumF] at e
    cases e2 : intsOf ds with
    | none => rw [e2] at e; cases e
    | some ns => rw [e2] at e; cases e; exact cr_sum hc pins s σ H [_] [u] Q I rv ⟨_, ns, rfl, by rw [← ints_of rr e2]; exact h, q _ H w (.refl _ _) g (.int _)⟩
  | _ => cases e
theorem cr_allD (hc : X.calm = true) : CallR X (.builtin "all") (rN X.K .e (f1 allF)) := by
  refine call1 fun pins s σ H x u Q w S d d' I r g v e q => ?_
  have rv : Vals [x] [u] := .cons r .nil
  cases v with
  | @lst a vs ds h rr =>
    simp only [allF] at e
    cases e2 : blsOf ds with
    | none => rw [e2] at e; cases e
    | some ns => rw [e2] at e; cases e; exact cr_all hc pins s σ H [_] [u] Q I rv ⟨_, ns, rfl, by rw [← bls_of rr e2]; exact h, q _ H w (.refl _ _) g (.bl _)⟩
  | _ => cases e
theorem cr_anyD (hc : X.calm = true) : CallR X (.builtin "any") (rN X.K .e (f1 anyF)) := by
  refine call1 fun pins s σ H x u Q w S d d' I r g v e q => ?_
  have rv : Vals [x] [u] := .cons r .nil
  cases v with
  | @lst a vs ds h rr =>
    simp only [anyF] at e
    cases e2 : blsOf ds with
    | none => rw [e2] at e; cases e
    | some ns => rw [e2] at e; cases e; exact cr_any hc pins s σ H [_] [u] Q I rv ⟨_, ns, rfl, by rw [← bls_of rr e2]; exact h, q _ H w (.refl _ _) g (.bl _)⟩
  | _ => cases e
def minF : D → D → Option D
  | .int i, .int j => some (.int (if j < i then j else i))
  | _, _ => none
def maxF : D → D → Option D
  | .int i, .int j => some (.int (if j > i then j else i))
  | _, _ => none
theorem cr_min2 (hc : X.calm = true) : CallR X (.builtin "min") (rN X.K .e (f2 minF)) := by
  refine call2 fun pins s σ H x y u v Q w S d1 d2 d' I r1 r2 g v1 v2 e q => ?_
  cases v1 <;> cases v2 <;> cases e
  exact call_min2 hc pins s σ H [_, _] [u, v] Q I (.cons r1 (.cons r2 .nil)) ⟨_, _, rfl, q _ H w (.refl _ _) g (.int _)⟩
theorem cr_max2 (hc : X.calm = true) : CallR X (.builtin "max") (rN X.K .e (f2 maxF)) := by
  refine call2 fun pins s σ H x y u v Q w S d1 d2 d' I r1 r2 g v1 v2 e q => ?_
  cases v1 <;> cases v2 <;> cases e
  exact call_max2 hc pins s σ H [_, _] [u, v] Q I (.cons r1 (.cons r2 .nil)) ⟨_, _, rfl, q _ H w (.refl _ _) g (.int _)⟩
def minI : List Int → Int
  | [] => 0
  | [a] => a
  | a :: r => if minI r < a then minI r else a
def maxI : List Int → Int
  | [] => 0
  | [a] => a
  | a :: r => if a < maxI r then maxI r else a
theorem minI_mem : ∀ {l : List Int}, l ≠ [] → minI l ∈ l
  | [], h => absurd rfl h
  | [a], _ => by simp [minI]
  | a :: b :: r, _ => by
    have := minI_mem (l := b :: r) (by simp)
    simp only [minI]
    split
    · exact List.mem_cons_of_mem _ this
    · exact List.mem_cons_self
theorem minI_le : ∀ {l : List Int} {y : Int}, y ∈ l → minI l ≤ y
  | [], y, h => absurd h (by simp)
  | [a], y, h => by simp at h; subst h; simp [minI]
  | a :: b :: r, y, h => by
    simp only [minI]
    rcases List.mem_cons.mp h with h | h
    · subst h; split <;> omega
    · have := minI_le h; split <;> omega
theorem maxI_mem : ∀ {l : List Int}, l ≠ [] → maxI l ∈ l
  | [], h => absurd rfl h
  | [a], _ => by simp [maxI]
  | a :: b :: r, _ => by
    have := maxI_mem (l := b :: r) (by simp)
    simp only [maxI]
    split
    · exact List.mem_cons_of_mem _ this
    · exact List.mem_cons_self
theorem maxI_le : ∀ {l : List Int} {y : Int}, y ∈ l → y ≤ maxI l
  | [], y, h => absurd h (by simp)
  | [a], y, h => by simp at h; subst h; simp [maxI]
  | a :: b :: r, y, h => by
    simp only [maxI]
    rcases List.mem_cons.mp h with h | h
    · subst h; split <;> omega
    · have := maxI_le h; split <;> omega
def minLF : D → Option D
  | .lst ds => match intsOf ds with
    | some (a :: r) => some (.int (minI (a :: r)))
    | _ => none
  | _ => none
def maxLF : D → Option D
  | .lst ds => match intsOf ds with
    | some (a :: r) => some (.int (maxI (a :: r)))
    | _ => none
  | _ => none
theorem cr_min1 (hc : X.calm = true) : CallR X (.builtin "min") (rN X.K .e (f1 minLF)) := by
  refine call1 fun pins s σ H x u Q w S d d' I r g v e q => ?_
  have rv : Vals [x] [u] := .cons r .nil
  cases v with
  | @lst a vs ds h rr =>
    simp only [minLF] at e
    match e2 : intsOf ds, e with
    | some (a :: ns), e =>
      cases e
      refine cr_min hc pins s σ H [_] [u] Q I rv ⟨_, a :: ns, rfl, by rw [← ints_of rr e2]; exact h, by simp, fun m hm hl => ?_⟩
      have : m = minI (a :: ns) := by
        have h1 := hl _ (minI_mem (l := a :: ns) (by simp))
        have h2 := minI_le hm
        omega
      rw [this]
      exact q _ H w (.refl _ _) g (.int _)
    | some [], e => cases e
    | none, e => cases e
  | _ => cases e
theorem cr_max1 (hc : X.calm = true) : CallR X (.builtin "max") (rN X.K .e (f1 maxLF)) := by
  refine call1 fun pins s σ H x u Q w S d d' I r g v e q => ?_
  have rv : Vals [x] [u] := .cons r .nil
  cases v with
  | @lst a vs ds h rr =>
    simp only [maxLF] at e
    match e2 : intsOf ds, e with
    | some (a :: ns), e =>
      cases e
      refine cr_max hc pins s σ H [_] [u] Q I rv ⟨_, a :: ns, rfl, by rw [← ints_of rr e2]; exact h, by simp, fun m hm hl => ?_⟩
      have : m = maxI (a :: ns) := by
        have h1 := hl _ (maxI_mem (l := a :: ns) (by simp))
        have h2 := maxI_le hm
        omega
      rw [this]
      exact q _ H w (.refl _ _) g (.int _)
    | some [], e => cases e
    | none, e => cases e
  | _ => cases e
end
end DL

/-! sorted, isinstance, displays -/
namespace DL
open PySem PySem.Spec PyProof.Rows L2

/-! ### sorted -/
def sortD (ds : List D) : List D := ds.mergeSort (PySem.W.dataLe false toPy)
def tupNe : D → Bool
  | .tup (_ :: _) => true
  | .ctp (_ :: _) => true
  | _ => false
def scalS : D → Bool
  | .int _ => true
  | .str _ => true
  | .bl _ => true
  | .lst _ => true
  | _ => false
def sortOk (ds : List D) : Bool := plDs ds && ds.all (fun x => ds.all fun y => PySem.W.alike (toPy x) (toPy y)) && (ds.all tupNe || ds.all scalS) && ds.all (fun d => decide ((toPy d).depth ≤ 60)) && decide (ds.length < LIM)
def sortF : D → Option D
  | .lst ds => if sortOk ds = true then some (.lst (sortD ds)) else none
  | _ => none
def RSort (K : PySem.W.Frag) (w : Wit) (v : Value) (b : D × V) : Prop := L2.RelV b.2 v ∧ Rep K w b.1 b.2
theorem each_in {K : PySem.W.Frag} {w : Wit} : ∀ {ds : List D} {vs : List V} {us : List Value}, Reps K w ds vs → Vals vs us → PySem.W.EachIs (RSort K w) us (ds.zip vs)
  | _, _, _, .nil, .nil => .nil
  | _, _, _, .cons h t, .cons r s => .cons ⟨r, h⟩ (each_in t s)
theorem each_out {K : PySem.W.Frag} {w : Wit} : ∀ {us : List Value} {bs : List (D × V)}, PySem.W.EachIs (RSort K w) us bs → Reps K w (bs.map (·.1)) (bs.map (·.2)) ∧ Vals (bs.map (·.2)) us
  | _, _, .nil => ⟨.nil, .nil⟩
  | _, _, .cons h t => ⟨.cons h.2 (each_out t).1, .cons h.1 (each_out t).2⟩
theorem each_reads {X : Cx} {pins : List (Addr × Obj)} {σ : L2.St} {H : Hp} {s : Shared} {w : Wit} (I : L2.Inv X pins σ H s) (hs : ∀ a o, w.F a = some o → H a = some o) : ∀ {us : List Value} {bs : List (D × V)}, PySem.W.EachIs (RSort X.K w) us bs → (∀ b ∈ bs, plD b.1 = true) →
    PySem.W.EachIs (fun v b => ∃ as, Reads s.heap v (toPy b.1) as) us bs
  | _, _, .nil, _ => .nil
  | _, _, .cons h t, p => .cons (Dp.reads I _ _ _ (h.2.dp hs (p _ List.mem_cons_self)) h.1) (each_reads I hs t fun b hb => p b (List.mem_cons_of_mem _ hb))
theorem zip_fst {α β : Type} : ∀ {as : List α} {bs : List β}, as.length = bs.length → (as.zip bs).map (·.1) = as
  | [], [], _ => rfl
  | a :: as, b :: bs, h => by simp [zip_fst (as := as) (bs := bs) (by simpa using h)]
section
variable {X : Cx}
theorem cr_sortedD (hu : X.A.units + 64 < cLine) : CallR X (.builtin "sorted") (rN X.K .f (f1 sortF)) := by
  refine call1 fun pins s σ H x u Q w S d d' I r g v e q => ?_
  cases v with
  | @lst a vs ds h rr =>
    simp only [sortF] at e
    split at e
    · rename_i hok
      cases e
      have eu : u = .ref a := r
      subst eu
      obtain ⟨its, rv, ⟨o, n, eo, hc, hd, hdt⟩, z⟩ := I.list h
      simp only [sortOk, Bool.and_eq_true, Bool.or_eq_true, decide_eq_true_eq, List.all_eq_true] at hok
      obtain ⟨⟨⟨⟨h1, h2⟩, h3⟩, h4⟩, h5⟩ := hok
      have hl := rr.length
      have ei := each_in rr rv
      have hz := zip_fst (as := ds) (bs := vs) hl
      have hm : ∀ b ∈ ds.zip vs, b.1 ∈ ds := fun b hb => by rw [← hz]; exact List.mem_map_of_mem hb
      have h1' : ∀ d ∈ ds, plD d = true := by rw [plDs_all, List.all_eq_true] at h1; exact h1
      have er := each_reads I g.sub ei fun b hb => h1' _ (hm b hb)
      have hmap : (ds.zip vs).map (fun b => toPy b.1) = ds.map toPy := by
        have : (ds.zip vs).map (fun b => toPy b.1) = ((ds.zip vs).map (·.1)).map toPy := by rw [List.map_map]; rfl
        rw [this, hz]
      refine PySem.W.sorted_data (bs := ds.zip vs) (enc := fun b => toPy b.1) (R := RSort X.K w) ⟨o, eo, hc, n, hdt⟩ ei er ?_ ?_ (by simp; have := lim_size h5; omega) (fun b hb => ?_) fun out ho hout => ?_
      · rw [hmap]
        intro d hd d' hd'
        obtain ⟨x, hx, rfl⟩ := List.mem_map.mp hd
        obtain ⟨y, hy, rfl⟩ := List.mem_map.mp hd'
        exact h2 x hx y hy
      · rw [hmap]
        rcases h3 with h3 | h3
        · refine .inl fun d hd => ?_
          obtain ⟨x, hx, rfl⟩ := List.mem_map.mp hd
          have := h3 x hx
          cases x with
          | tup es => cases es with
            | nil => cases this
            | cons e es => exact ⟨toPy e, toPys es, by simp only [toPy, toPys]⟩
          | ctp es => cases es with
            | nil => cases this
            | cons e es => exact ⟨toPy e, toPys es, by simp only [toPy, toPys]⟩
          | _ => cases this
        · refine .inr fun d hd => ?_
          obtain ⟨x, hx, rfl⟩ := List.mem_map.mp hd
          have := h3 x hx
          cases x <;> first | exact absurd this Bool.false_ne_true | exact ⟨by simp [toPy], by simp [toPy]⟩
      · have := h4 _ (hm b hb)
        have e64 : (toPy b.1).depth ≤ 60 := by simpa using this
        omega
      · obtain ⟨r1, v1⟩ := each_out hout
        have hs : ((ds.zip vs).mergeSort (PySem.W.dataLe false fun b => toPy b.1)).map (·.1) = sortD ds := by
          unfold sortD
          have := List.map_mergeSort (r := PySem.W.dataLe false fun b : D × V => toPy b.1) (s := PySem.W.dataLe false toPy) (f := (·.1)) (l := ds.zip vs) (fun _ _ _ _ => rfl)
          rw [this, hz]
        rw [hs] at r1
        have hn : H (s.heap.objs.size + 1) = none := by
          cases hh : H (s.heap.objs.size + 1) with
          | none => rfl
          | some ob => exact absurd (I.hok.lt hh) (Nat.not_lt.mpr (Nat.le_succ _))
        obtain ⟨e, he⟩ := sortedAll_at s.heap its out.toArray
        refine ⟨.ref _, _, I.turnedNew (ch := []) (t' := s.toks) (T := s.heap.objs.size + 1) (ob := .lst (((ds.zip vs).mergeSort (PySem.W.dataLe false fun b => toPy b.1)).map (·.2))) (fun b o _ hb => sortedAll_old hb) (fun b hb => absurd hb (by simp)) (by omega) ?_, rfl, q _ _ w (Ext.newO w hn) (g.newO hn) ⟨_, rfl, hn, g.noneF hn, g.nophi hn, _, upd_same, r1⟩⟩
        unfold ObjOk
        refine ⟨by rw [List.length_map, List.length_mergeSort, List.length_zip]; have := lim_size h5; omega, out, e, v1, ?_⟩
        exact he
    · cases e
  | _ => cases e
end

/-! ### isinstance -/
def tyB : D → Option String
  | .non => some "NoneType"
  | .bl _ => some "bool"
  | .int _ => some "int"
  | .str _ => some "str"
  | .tup _ => some "tuple"
  | .ctp _ => some "tuple"
  | .lst _ => some "list"
  | .dct _ => some "dict"
  | .dtt _ => some "dict"
  | _ => none
def baseTys : List String := ["NoneType", "bool", "int", "str", "tuple", "list", "dict"]
theorem tyB_base {d : D} {t : String} (h : tyB d = some t) : t ∈ baseTys := by
  cases d <;> simp [tyB] at h <;> subst h <;> simp [baseTys]
theorem tyB_tyx {K : PySem.W.Frag} {w : Wit} {H : Hp} (hs : ∀ a o, w.F a = some o → H a = some o) {d : D} {v : V} {t : String} (h : Vw K w H d v) (e : tyB d = some t) : TyX K H v (.type t) := by
  cases h with
  | non => cases e; exact .base .non
  | bl b => cases e; exact .base (.bl b)
  | int b => cases e; exact .base (.int b)
  | str b => cases e; exact .base (.str b)
  | tup h r => cases e; exact .base (.tup (hs _ _ h))
  | ctp h r =>
    cases e
    rcases h with h | ⟨o, its, n, h1, h2, _⟩
    · rcases h with h | ⟨o, h⟩
      · cases (show (none : Option HO) = some _ from h)
      · cases (show (none : Option HO) = some _ from h)
    · exact .kTuple h1 h2
  | lst h r =>
    cases e
    rcases h with h | ⟨o, its, n, h1, h2, _⟩
    · rcases h with h | ⟨o, h⟩
      · exact .base (.lst h)
      · exact .base (.frz h)
    · exact .kList h1 h2
  | dK h r => cases e; exact .base (.dK h)
  | dT h r => cases e; exact .base (.dT h)
  | _ => cases e
/-- what isinstance needs to know of an own class -/
structure ClsI (K : PySem.W.Frag) (c : Str) : Prop where
  cls : Cls K (He.ga K c)
  fc : PySem.W.findIn K (.ref (He.ga K c)) (Str.ofString "__class__") = some (some (.builtin "object.__class__"))
  sg : PySem.W.specialIn K (.builtin "object.__class__") (Str.ofString "__get__") = some (some (.builtin "getset_descriptor.__get__"))
  tk : PySem.W.takesIn K (.builtin "object.__class__") = some true
  mro : PySem.W.mroIn K (He.ga K c) (.type "object") = some true
def isF (tb : String → Bool) (to : Str → Option Bool) (d : D) : Option D := match d with
  | .ins c _ => (to c).map .bl
  | d => (tyB d).map fun t => .bl (tb t)
structure IsK (K : PySem.W.Frag) (us : List Value) (tb : String → Bool) (to : Str → Option Bool) : Prop where
  base : ∀ t ∈ baseTys, PySem.W.kitAny K (.type t) us = some (tb t)
  own : ∀ c b, to c = some b → ClsI K c ∧ PySem.W.kitAny K (.ref (He.ga K c)) us = some b
theorem is_of {K : PySem.W.Frag} {w : Wit} {H : Hp} {us : List Value} {tb : String → Bool} {to : Str → Option Bool} (hk : IsK K us tb to) (hs : ∀ a o, w.F a = some o → H a = some o) {d d' : D} {v : V} (h : Vw K w H d v) (e : isF tb to d = some d') :
    ∃ t b, TyX K H v t ∧ PySem.W.kitAny K t us = some b ∧ d' = .bl b := by
  by_cases hi : ∃ c fs, d = .ins c fs
  · obtain ⟨c, fs, rfl⟩ := hi
    cases h with
    | ins h r =>
      simp only [isF] at e
      cases e2 : to c with
      | none => rw [e2] at e; cases e
      | some b =>
        rw [e2] at e; cases e
        obtain ⟨k1, k2⟩ := hk.own c b e2
        exact ⟨_, b, .base (.ins h k1.cls k1.fc k1.sg k1.tk k1.mro), k2, rfl⟩
  · have e' : (tyB d).map (fun t => D.bl (tb t)) = some d' := by
      cases d <;> first | exact absurd ⟨_, _, rfl⟩ hi | exact e
    cases e2 : tyB d with
    | none => rw [e2] at e'; cases e'
    | some t =>
      rw [e2] at e'; cases e'
      exact ⟨_, _, tyB_tyx hs h e2, hk.base t (tyB_base e2), rfl⟩
theorem kitAny_one {K : PySem.W.Frag} {t u : Value} {b : Bool} (h : PySem.W.kitAny K t [u] = some b) : PySem.W.kitOne K t u = some b := by
  unfold PySem.W.kitAny at h
  cases e : PySem.W.kitOne K t u with
  | none => simp [e] at h
  | some c => cases c <;> simp [e, PySem.W.kitAny] at h <;> simp [h]
section
variable {X : Cx} {W : WZ} {O : List Nat} {a T : Expr} {fa : EF} {k : Kd} {p pos : Pos} {c : V} {u : Value} {tb : String → Bool} {to : Str → Option Bool}
theorem de_isi (hk : IsK X.K [u] tb to) (ha : DE k X W O a fa) (hT : PE X T (tC c)) (hc : ClsV c u) (hm : X.mg "isinstance" = none) (hg : Gl X "isinstance" := by rfl) (hs : starEach [a, T] X.env = (false, eval a X.env) :: starEach [T] X.env := by rfl) (hs2 : starEach [T] X.env = (false, eval T X.env) :: starEach [] X.env := by rfl) (hpl : (backTo pos (starEach [T] X.env)).any (·.1) = false := by rfl) :
    DE .e X W O (.Call (.Name "isinstance" p) [a, T] [] pos) (e1 (isF tb to) fa) := by
  refine ⟨(pe_callB call_isi hg hm (by rfl) (pa_cons ha.pe (pa_cons hT pa_nil hs2) hs) (by decide) (by decide) hs hpl).imp ?_⟩
  rintro σ H Q ⟨ent, w, ρ, S, r, p⟩
  refine ⟨ent, w, ρ, S, r, p.bind fun d S1 v H1 w1 x g1 z p1 => ?_⟩
  have v1 := (z.ext (H1 := H1) (.refl _ _)).vw g1
  cases e : isF tb to (deref S1 d) with
  | none => rw [e] at p1; exact p1.elim
  | some d' =>
    rw [e] at p1
    obtain ⟨t, b, ty, kk, rfl⟩ := is_of hk g1.sub v1 e
    exact ⟨v, c, t, u, b, rfl, hc, ty, kitAny_one kk, p1 _ H1 w1 (.refl _ _) g1 (.bl b)⟩
/-- constants -/
def tCs (cs : List V) : TA := fun _ H Q => Q cs H
theorem Paired.len {α β : Type} {F : α → β → Prop} : ∀ {l : List α} {m : List β}, Paired F l m → l.length = m.length
  | _, _, .nil => rfl
  | _, _, .cons _ t => by simp [Paired.len t]
theorem de_isiT {Ts : List Expr} {cs : List V} {us : List Value} {j : Nat} {tpos : Pos} (hk : IsK X.K us tb to) (ha : DE k X W O a fa) (hT : PA X Ts (tCs cs)) (hc : Paired ClsV cs us) (hz : cs.length ≤ 1000 := by decide) (hm : X.mg "isinstance" = none) (hg : Gl X "isinstance" := by rfl)
    (hs : starEach [a, .Tuple Ts j tpos] X.env = (false, eval a X.env) :: starEach [.Tuple Ts j tpos] X.env := by rfl) (hs2 : starEach [.Tuple Ts j tpos] X.env = (false, eval (.Tuple Ts j tpos) X.env) :: starEach [] X.env := by rfl) (hpl : (backTo pos (starEach [.Tuple Ts j tpos] X.env)).any (·.1) = false := by rfl) :
    DE .e X W O (.Call (.Name "isinstance" p) [a, .Tuple Ts j tpos] [] pos) (e1 (isF tb to) fa) := by
  refine ⟨(pe_callB call_isiT hg hm (by rfl) (pa_cons ha.pe (pa_cons (pe_tup hT) pa_nil hs2) hs) (by decide) (by decide) hs hpl).imp ?_⟩
  rintro σ H Q ⟨ent, w, ρ, S, r, p⟩
  refine ⟨ent, w, ρ, S, r, p.bind fun d S1 v H1 w1 x g1 z p1 => ?_⟩
  refine ⟨Nat.le_trans hz (by decide), fun tp np => ?_⟩
  have x2 := Ext.newF (o := .tup cs) g1 np
  have g2 := g1.new (o := .tup cs) np
  have v1 := (z.ext (H1 := H1) x2).vw g2
  cases e : isF tb to (deref S1 d) with
  | none => rw [e] at p1; exact p1.elim
  | some d' =>
    rw [e] at p1
    obtain ⟨t, b, ty, kk, rfl⟩ := is_of hk g2.sub v1 e
    exact ⟨v, tp, cs, t, us, b, rfl, upd_same, hc, ty, kk, p1 _ _ _ x2 g2 (.bl b)⟩
end

/-! ### displays -/
def eTup (f : AF) : EF := fun ρ S => match f ρ S with
  | .ok ds S1 => if ds.length < LIM then .ok (.tup ds) S1 else .stuck
  | .exn x S1 => .exn x S1
  | .stuck => .stuck
def eLst (f : AF) : EF := fun ρ S => match f ρ S with
  | .ok ds S1 => if ds.length < LIM then .ok (.lst ds) S1 else .stuck
  | .exn x S1 => .exn x S1
  | .stuck => .stuck
section
variable {X : Cx} {W : WZ} {O : List Nat} {es : List Expr} {e : Expr} {fa : AF} {f : EF} {k : Kd} {pos p : Pos} {j : Nat}
theorem tup_of {K : PySem.W.Frag} : ∀ σ H Q, rd K .e W O (eTup fa) σ H Q → tTup (rdA K (PRep K) W O fa) σ H Q := by
  rintro σ H Q ⟨ent, w, ρ, S, r, p⟩
  refine ⟨ent, w, ρ, S, r, ?_⟩
  unfold eTup at p
  cases e : fa ρ S with
  | stuck => rw [e] at p; exact p
  | exn x S1 => rw [e] at p; exact p
  | ok ds S1 =>
    rw [e] at p
    intro vs H1 w1 x1 g1 z
    dsimp only at p
    have z : Reps K w1 ds vs := z
    split at p
    · rename_i hl
      refine ⟨by rw [← z.length]; exact Nat.le_of_lt (lim_size hl), fun a na => ?_⟩
      exact p _ _ (w1.new a (.tup vs)) (x1.trans (Ext.newF g1 na)) (g1.new na) (.tup upd_same (z.mono (Le.new (g1.noneF na))))
    · exact p.elim
theorem lst_of {K : PySem.W.Frag} : ∀ σ H Q, rd K .f W O (eLst fa) σ H Q → tLst (rdA K (PRep K) W O fa) σ H Q := by
  rintro σ H Q ⟨ent, w, ρ, S, r, p⟩
  refine ⟨ent, w, ρ, S, r, ?_⟩
  unfold eLst at p
  cases e : fa ρ S with
  | stuck => rw [e] at p; exact p
  | exn x S1 => rw [e] at p; exact p
  | ok ds S1 =>
    rw [e] at p
    intro vs H1 w1 x1 g1 z
    dsimp only at p
    have z : Reps K w1 ds vs := z
    split at p
    · rename_i hl
      refine ⟨by rw [← z.length]; exact Nat.le_of_lt (lim_size hl), fun a na => ?_⟩
      have x2 := x1.trans (Ext.newO (o := .lst vs) w1 na)
      refine p _ _ w1 x2 (g1.newO na) ⟨a, rfl, ?_, g1.noneF na, g1.nophi na, _, upd_same, z⟩
      cases q : H a with
      | none => rfl
      | some o => exact absurd na (x1.there a (by rw [q]; simp))
    · exact p.elim
theorem de_tup (ha : DA X W O es fa) : DE .e X W O (.Tuple es j pos) (eTup fa) := ⟨(pe_tup ha.pa).imp tup_of⟩
theorem de_lst (ha : DA X W O es fa) : DE .f X W O (.List es pos) (eLst fa) := ⟨(pe_lst ha.pa).imp lst_of⟩
/-- *e, .. -/
def itemsD : D → Option (List D)
  | .lst ds => some ds
  | .tup ds => some ds
  | .ctp ds => some ds
  | _ => none
def aStar (f : EF) (g : AF) : AF := fun ρ S => match f ρ S with
  | .ok d S1 => (match itemsD (deref S1 d) with
    | some xs => (match g ρ S1 with
      | .ok ds S2 => .ok (xs ++ ds) S2
      | .exn x S2 => .exn x S2
      | .stuck => .stuck)
    | none => .stuck)
  | .exn x S1 => .exn x S1
  | .stuck => .stuck
theorem da_star (ha : DE k X W O e f) (hr : DA X W O es fa) (hs : starEach (.Starred e p :: es) X.env = (true, eval e X.env) :: starEach es X.env := by rfl) : DA X W O (.Starred e p :: es) (aStar f fa) := by
  refine ⟨(StX.pa_star ha.pe hr.pa hs).imp ?_⟩
  rintro σ H Q ⟨ent, w, ρ, S, r, p⟩
  refine ⟨ent, w, ρ, S, r, ?_⟩
  unfold aStar at p
  cases e1 : f ρ S with
  | stuck => rw [e1] at p; exact p
  | exn x S1 => rw [e1] at p; exact p
  | ok d S1 =>
    rw [e1] at p
    refine fun v H1 w1 x1 g1 z1 => ?_
    have v1 := (z1.ext (H1 := H1) (.refl _ _)).vw g1
    dsimp only at p
    have fin : ∀ (xs : List D) (vs : List V), Reps X.K w1 xs vs → PostA X.K (PRep X.K) w H W σ (match fa ρ S1 with
      | .ok ds S2 => .ok (xs ++ ds) S2
      | .exn x S2 => .exn x S2
      | .stuck => .stuck) Q → rdA X.K (PRep X.K) W O fa σ H1 fun ys H2 => Q (vs ++ ys) H2 := by
      intro xs vs rx p
      refine ⟨ent, w1, ρ, S1, r.later x1 g1, ?_⟩
      cases e2 : fa ρ S1 with
      | stuck => rw [e2] at p; exact p
      | exn x S2 => rw [e2] at p; exact fun cls dx H' w' y g' h => p cls dx H' w' (x1.trans y) g' h
      | ok ds S2 =>
        rw [e2] at p
        exact fun ys H2 w2 x2 g2 z2 => p _ H2 w2 (x1.trans x2) g2 ((rx.mono x2.le).append z2)
    generalize deref S1 d = D1 at v1 p
    cases v1 with
    | lst h rr => exact ⟨_, _, rfl, .inr h, fin _ _ rr p⟩
    | tup h rr => exact ⟨_, _, rfl, .inl (SqT.of (g1.sub _ _ h)), fin _ _ rr p⟩
    | ctp h rr => exact ⟨_, _, rfl, .inl (SqT.monoF none_le h), fin _ _ rr p⟩
    | _ => exact p.elim
end
end DL

/-! enumerate, zip, texts walked -/
namespace DL
open PySem PySem.Spec PyProof.Rows L2

/-! ### enumerate of a tuple -/
def IteT (K : PySem.W.Frag) (a : Addr) : It where
  go := fun i H => ∃ xs x, SqT K H a xs ∧ xs[i]? = some x
  yld := fun i H v H' => ∃ T x, v = .ref T ∧ H T = none ∧ H' = upd H T (.tup [.int (i : Int), x]) ∧ ∀ xs, SqT K H a xs → xs[i]? = some x
  stop := fun i H => ∃ xs, SqT K H a xs ∧ xs.length = i
theorem vals_get {vs : List V} {us : List Value} (h : Vals vs us) : ∀ {i : Nat} {v : V}, vs[i]? = some v → ∃ u, us[i]? = some u ∧ L2.RelV v u := by
  induction h with
  | nil => intro i v e; simp at e
  | cons h t ih =>
    intro i v e
    cases i with
    | zero => simp at e; subst e; exact ⟨_, rfl, h⟩
    | succ i => exact ih (by simpa using e)
theorem turn_enumT {P : Program} {w : World} {K : PySem.W.Frag} {elts : List Expr} {kk : Nat} {tpos : Pos} (a e it : Addr) :
    Turn P w K (.Tuple elts kk tpos) (IteT K a) [e, it] e (fun i h => (∃ old, IsEnum h e it (i : Int) old) ∧ h.IsTupleIter it a i ∧ e ≠ it) where
  mem := by simp
  obj := fun i h ⟨⟨old, he⟩, ⟨o, ho, hc, hd⟩, _⟩ b hb => by
    simp at hb
    rcases hb with rfl | rfl
    · exact ⟨_, he, fun v => by simp⟩
    · exact ⟨o, ho, fun v => by rw [hd]; simp⟩
  keep := fun i h h' ⟨⟨old, he⟩, ⟨o, ho, hc, hd⟩, hne⟩ hk => ⟨⟨old, hk e (by simp) _ he⟩, ⟨o, hk it (by simp) _ ho, hc, hd⟩, hne⟩
  item := by
    rintro X rfl rfl rfl hc i pins s σ H E I hf ⟨⟨old, he⟩, hi, hne⟩ ⟨xs, x, hq, hx⟩
    obtain ⟨its, rv, ht, hz⟩ := I.tuple hq
    obtain ⟨o, ho, oc, n, od⟩ := ht
    have hh : X.A.handled = none := I.ok.hd hc
    have nai : a ≠ it := by
      rintro rfl
      obtain ⟨o2, ho2, hc2, _⟩ := hi
      rw [ho] at ho2; cases ho2
      rw [oc] at hc2; exact absurd hc2 (by simp)
    have nae : a ≠ e := by
      rintro rfl
      have he' : s.heap.get? a = _ := he
      rw [ho] at he'; cases he'
      exact absurd oc (by simp)
    have dr := Draws.tuple (prog := X.prog) (w := X.w) (A := X.A.in1) hh it a nai its.toArray
    have wt := WalksT.enumerateD dr e hne (by simp [hne, Ne.symm nae]) (by simp)
    obtain ⟨u, hu, ru⟩ := vals_get rv hx
    have hlen : i < its.toArray.size := by
      have := (List.getElem?_eq_some_iff.mp hu).1
      simpa using this
    refine wt.item i s _ E hlen ⟨⟨old, he⟩, hi, ⟨o, ho, oc, n, od⟩⟩ fun T vals h' tk pt ts tt mid fr => ⟨.ref T, rfl, ?_⟩
    obtain ⟨t, y, hy, rfl⟩ := pt
    refine wt.go elts kk tpos i T _ _ E mid fun h2 st fr2 => ?_
    have eyu : y = u := by
      have : its[i]? = some y := by simpa using hy
      rw [hu] at this; cases this; rfl
    subst eyu
    have hT : H T = none := I.hok.fresh ts
    have nT := wt.apart i T h' mid
    obtain ⟨ot, hot, otc, otn, otd⟩ := tt
    have ht2 := fr2 T ot nT hot
    have I2 := I.turnedNew (h' := h2) (t' := tk) (ch := [e, it]) (T := T) (ob := .tup [.int (i : Int), x]) (fun b o hb ho => fr2 b o hb (fr b o hb ho)) (fun b hb => hf b hb) ts (by
      unfold ObjOk
      exact ⟨Nat.le_trans (by simp : [V.int (i : Int), x].length ≤ 2) (by decide), [.int (i : Int) t, y], .cons ⟨t, rfl⟩ (.cons ru .nil), ot, ht2, otc, otn, otd⟩)
    refine ⟨.ref T, _, I2, rfl, ⟨T, x, rfl, hT, rfl, fun ys hys => ?_⟩, ⟨st.1.imp fun _ z => by exact_mod_cast z, st.2.1, hne⟩, fun b hb => ?_⟩
    · rw [I.tuple_inj hys hq]; exact hx
    · have hn : b ≠ T := fun z => nT (z ▸ hb)
      rw [upd_ne hn]
      exact (hf b hb).1
  done := by
    rintro X rfl rfl rfl hc i pins s σ H E I hf ⟨⟨old, he⟩, hi, hne⟩ ⟨xs, hq, hx⟩
    obtain ⟨its, rv, ht, hz⟩ := I.tuple hq
    obtain ⟨o, ho, oc, n, od⟩ := ht
    have hh : X.A.handled = none := I.ok.hd hc
    have nai : a ≠ it := by
      rintro rfl
      obtain ⟨o2, ho2, hc2, _⟩ := hi
      rw [ho] at ho2; cases ho2
      rw [oc] at hc2; exact absurd hc2 (by simp)
    have nae : a ≠ e := by
      rintro rfl
      have he' : s.heap.get? a = _ := he
      rw [ho] at he'; cases he'
      exact absurd oc (by simp)
    have dr := Draws.tuple (prog := X.prog) (w := X.w) (A := X.A.in1) hh it a nai its.toArray
    have wt := WalksT.enumerateD dr e hne (by simp [hne, Ne.symm nae]) (by simp)
    have hl : its.toArray.size = i := by
      have := rv.length
      simp; omega
    refine wt.done s _ E (by rw [hl]; exact ⟨⟨old, he⟩, hi, ⟨o, ho, oc, n, od⟩⟩) fun h' tk fr => ⟨rfl, ?_⟩
    exact I.turnedL (ch := [e, it]) (fun b o hb ho => fr b o hb ho) fun b hb => hf b hb
  self := fun A i s Q E ⟨⟨_, he⟩, _⟩ q => wpAny_pyIter_enum he q
end DL
namespace PySem
open Sem (wp)
open AutoSeq1 (wpAny_loadPart')
theorem meets_enumerate_newT (l : Addr) (items : Array Value) (n : Nat) (dct : Option Addr) (sl : Array (Option Value)) :
    Meets (Builtin.«enumerate.__new__» ⟨[.type "enumerate", .ref l], []⟩) (fun _ R s => s.heap.get? l = some { cls := .type "tuple", dict := dct, data := .seq items n, slots := sl } ∧
      R (.ok (.ret (.ref (s.heap.push { cls := .type "tuple_iterator", data := .fields #[.ref l, .int 0 0] }).objs.size)))
        { s with heap := (s.heap.push { cls := .type "tuple_iterator", data := .fields #[.ref l, .int 0 0] }).push { cls := .type "enumerate", data := .fields #[.none, .bool false, .ref s.heap.objs.size, rawInt 0, .none, .none] } }) :=
  .of_wp fun prog w A R s h => by
    obtain ⟨hp, g, d, tk, os⟩ := s; obtain ⟨hl, h⟩ := h
    have hsub := sub_enumerate
    have hL : Heap.IsTuple (Shared.heap ⟨hp, g, d, tk, os⟩) l items := ⟨_, hl, rfl, n, rfl⟩
    wp_walk using wpAny_loadPart' hl
    refine wpAny_stack_any fun st => wpAny_pure ?_
    split
    · rename_i c _ _ _ _ _
      cases (c == Value.type "enumerate")
      · wp_walk using wpAny_loadPart' hl, wpAny_pyIter_tuple hL
        exact ⟨_, rfl, h⟩
      · wp_walk using wpAny_loadPart' hl, wpAny_pyIter_tuple hL
        exact ⟨_, rfl, h⟩
    · wp_walk using wpAny_loadPart' hl, wpAny_pyIter_tuple hL
      exact ⟨_, rfl, h⟩
section
variable {prog : Program} {w : World} {A : Around} {E : Value → Shared → Prop} {s : Shared}
theorem call_enumerate_tupleD {l : Addr} {items : Array Value} {Q : Value → Shared → Prop} (hL : s.heap.IsTuple l items)
    (h : ∀ h', IsEnum h' (s.heap.objs.size + 1) s.heap.objs.size 0 .none → h'.IsTupleIter s.heap.objs.size l 0 → h'.objs.size = s.heap.objs.size + 2 →
      (∀ b o, s.heap.get? b = some o → h'.get? b = some o) → Q (.ref (s.heap.objs.size + 1)) { s with heap := h' }) :
    wpAny (model prog w) A (call (.type "enumerate") [.ref l]) Q E s := by
  obtain ⟨⟨c, dct, dt, sl⟩, hl, hc, n, hd⟩ := hL
  replace hc : c = .type "tuple" := hc
  replace hd : dt = .seq items n := hd
  subst hc hd
  refine callType_new F.called_enumerate (by decide) (F.typeCall_enumerate_1 _) (F.newCall_enumerate_1 _) (fun obj => F.args_object_init_2 obj _) F.entry_enumerate_new
    (meets_enumerate_newT l items n dct sl) ⟨hl, ?_⟩
  have hz : (s.heap.push { cls := .type "tuple_iterator", data := .fields #[.ref l, .int 0 0] }).objs.size = s.heap.objs.size + 1 := Heap.size_push ..
  show _ ∧ _
  rw [hz]
  have he : IsEnum ((s.heap.push { cls := .type "tuple_iterator", data := .fields #[.ref l, .int 0 0] }).push
      { cls := .type "enumerate", data := .fields #[.none, .bool false, .ref s.heap.objs.size, rawInt 0, .none, .none] }) (s.heap.objs.size + 1) s.heap.objs.size 0 .none := by
    have := Heap.get?_push_size (s.heap.push { cls := .type "tuple_iterator", data := .fields #[.ref l, .int 0 0] })
      (o := { cls := .type "enumerate", data := .fields #[.none, .bool false, .ref s.heap.objs.size, rawInt 0, .none, .none] }) rfl
    rw [hz] at this; exact this
  refine ⟨⟨_, he, rfl⟩, h _ he ⟨_, Heap.get?_push_of_some _ (Heap.get?_push_size _ rfl), rfl, rfl⟩ (by rw [Heap.size_push, hz]) fun b o x => Heap.get?_push_of_some _ (Heap.get?_push_of_some _ x)⟩
end
end PySem
namespace DL
open PySem PySem.Spec PyProof.Rows L2
theorem pi_enumT {X : Cx} {e : Expr} {ta : TA} {p pos tpos : Pos} {elts : List Expr} {kk : Nat} (hg : Gl X "enumerate") (hm : X.mg "enumerate" = none) (ha : PA X [e] ta) (hs : starEach [e] X.env = [(false, eval e X.env)] := by rfl) :
    PI X (.Tuple elts kk tpos) (.Call (.Name "enumerate" p) [e] [] pos) (fun σ H R => ta σ H fun vs H1 => ∃ a xs, vs = [.ref a] ∧ SqT X.K H1 a xs ∧ R (IteT X.K a) H1) := by
  refine ⟨fun pins s σ H R I h => ?_⟩
  refine Call_ (ld_blt I hg hm boot_enumerate (PyProof.Rows.callWith_type1 (thn (ha.run pos pins s σ H _ I h) fun us s1 ⟨vs, H1, I1, r1, q1⟩ => ?_) hs rfl))
  obtain ⟨a, xs, ex, hq, q⟩ := q1
  subst ex
  cases r1 with
  | cons r rr =>
    cases rr
    cases r
    obtain ⟨its, rv, p', hz⟩ := I1.tuple hq
    refine call_enumerate_tupleD p' fun h' he hit hsz hk => wpAny_pyIter_enum he ?_
    have I2 : L2.Inv X pins σ H1 { s1 with heap := h' } := I1.kept (t' := s1.toks) hk
    refine ⟨s1.heap.objs.size + 1, [s1.heap.objs.size + 1, s1.heap.objs.size], _, _, H1, rfl, I2, turn_enumT a (s1.heap.objs.size + 1) s1.heap.objs.size, ⟨⟨.none, he⟩, hit, Nat.succ_ne_self _⟩, fun b hb => ?_, q⟩
    have e' : b = s1.heap.objs.size + 1 ∨ b = s1.heap.objs.size := by simpa using hb
    have hle : s1.heap.objs.size ≤ b := by
      rcases e' with z | z
      · rw [z]; exact Nat.le_add_right _ _
      · rw [z]; exact Nat.le_refl _
    exact I1.fpOk hle (I1.hok.fresh hle)
end DL
namespace DL
open PySem PySem.Spec PyProof.Rows L2
def enD : Nat → List D → List D
  | _, [] => []
  | k, d :: ds => .tup [.int (k : Int), d] :: enD (k + 1) ds
theorem enD_get : ∀ (k : Nat) (ds : List D) (i : Nat), (enD k ds)[i]? = ds[i]?.map fun d => .tup [.int ((k + i : Nat) : Int), d]
  | k, [], i => by simp [enD]
  | k, d :: ds, 0 => by simp [enD]
  | k, d :: ds, i + 1 => by
    simp only [enD, List.getElem?_cons_succ, enD_get (k + 1) ds i]
    have : k + 1 + i = k + (i + 1) := by omega
    rw [this]
theorem enD_len : ∀ (k : Nat) (ds : List D), (enD k ds).length = ds.length
  | _, [] => rfl
  | k, d :: ds => by simp [enD, enD_len (k + 1) ds]
section
variable {K : PySem.W.Frag} {w : Wit} {a b : Addr} {vs us : List V} {ds es : List D}
theorem itok_en (h : SqL K w.F a vs) (r : Reps K w ds vs) : ItOk K w (Ite K a) (enD 0 ds) := fun w' H' S' i l g => by
  have hq : SqL K H' a vs := SqL.monoF g.sub (SqL.monoF l.F h)
  refine ⟨fun d e => ?_, fun hl => ⟨vs, hq, by rw [← r.length]; rw [enD_len] at hl; exact Nat.le_of_eq hl.symm⟩⟩
  rw [enD_get] at e
  cases e1 : ds[i]? with
  | none => rw [e1] at e; cases e
  | some d' =>
    rw [e1] at e; cases e
    obtain ⟨v, ev, rv⟩ := r.get e1
    refine ⟨⟨vs, v, hq, ev⟩, fun x H2 y => ?_⟩
    obtain ⟨T, x', rfl, nT, rfl, y⟩ := y
    have := y vs hq
    rw [ev] at this; cases this
    refine ⟨w'.new T (.tup [.int (i : Int), v]), Ext.newF g nT, g.new nT, .tup upd_same (.cons ?_ (.cons ((rv.mono l).mono (Le.new (g.noneF nT))) .nil))⟩
    simp only [Nat.zero_add]
    exact .int _
theorem itok_enT (h : SqT K w.F a vs) (r : Reps K w ds vs) : ItOk K w (IteT K a) (enD 0 ds) := fun w' H' S' i l g => by
  have hq : SqT K H' a vs := SqT.monoF g.sub (SqT.monoF l.F h)
  refine ⟨fun d e => ?_, fun hl => ⟨vs, hq, by rw [← r.length]; rw [enD_len] at hl; exact hl.symm⟩⟩
  rw [enD_get] at e
  cases e1 : ds[i]? with
  | none => rw [e1] at e; cases e
  | some d' =>
    rw [e1] at e; cases e
    obtain ⟨v, ev, rv⟩ := r.get e1
    refine ⟨⟨vs, v, hq, ev⟩, fun x H2 y => ?_⟩
    obtain ⟨T, x', rfl, nT, rfl, y⟩ := y
    have := y vs hq
    rw [ev] at this; cases this
    refine ⟨w'.new T (.tup [.int (i : Int), v]), Ext.newF g nT, g.new nT, .tup upd_same (.cons ?_ (.cons ((rv.mono l).mono (Le.new (g.noneF nT))) .nil))⟩
    simp only [Nat.zero_add]
    exact .int _
def zipD : List D → List D → List D
  | x :: xs, y :: ys => .tup [x, y] :: zipD xs ys
  | _, _ => []
theorem zipD_get : ∀ (xs ys : List D) (i : Nat) (d : D), (zipD xs ys)[i]? = some d → ∃ x y, xs[i]? = some x ∧ ys[i]? = some y ∧ d = .tup [x, y]
  | x :: xs, y :: ys, 0, d, h => by simp [zipD] at h; exact ⟨x, y, rfl, rfl, h.symm⟩
  | x :: xs, y :: ys, i + 1, d, h => by
    obtain ⟨x', y', h1, h2, h3⟩ := zipD_get xs ys i d (by simpa [zipD] using h)
    exact ⟨x', y', by simpa using h1, by simpa using h2, h3⟩
  | [], _, i, d, h => by simp [zipD] at h
  | _ :: _, [], i, d, h => by simp [zipD] at h
theorem zipD_len : ∀ (xs ys : List D), (zipD xs ys).length = min xs.length ys.length
  | x :: xs, y :: ys => by simp [zipD, zipD_len xs ys]
  | [], _ => by simp [zipD]
  | _ :: _, [] => by simp [zipD]
theorem itok_zip (h : SqL K w.F a vs) (r : Reps K w ds vs) (h' : SqL K w.F b us) (r' : Reps K w es us) : ItOk K w (Itz K a b) (zipD ds es) := fun w' H' S' i l g => by
  have hq : SqL K H' a vs := SqL.monoF g.sub (SqL.monoF l.F h)
  have hq' : SqL K H' b us := SqL.monoF g.sub (SqL.monoF l.F h')
  refine ⟨fun d e => ?_, fun hl => ⟨vs, us, hq, hq', by rw [zipD_len, r.length, r'.length] at hl; omega⟩⟩
  obtain ⟨x, y, e1, e2, rfl⟩ := zipD_get _ _ _ _ e
  obtain ⟨v, ev, rv⟩ := r.get e1
  obtain ⟨u, eu, ru⟩ := r'.get e2
  refine ⟨⟨vs, us, v, u, hq, hq', ev, eu⟩, fun x H2 y => ?_⟩
  obtain ⟨T, x', y', rfl, nT, rfl, y1, y2⟩ := y
  have h1 := y1 vs hq
  have h2 := y2 us hq'
  rw [ev] at h1; cases h1
  rw [eu] at h2; cases h2
  exact ⟨w'.new T (.tup [v, u]), Ext.newF g nT, g.new nT, .tup upd_same (.cons ((rv.mono l).mono (Le.new (g.noneF nT))) (.cons ((ru.mono l).mono (Le.new (g.noneF nT))) .nil))⟩
theorem itok_zipT (h : SqT K w.F a vs) (r : Reps K w ds vs) (h' : SqT K w.F b us) (r' : Reps K w es us) : ItOk K w (RZ.ItzT K a b) (zipD ds es) := fun w' H' S' i l g => by
  have hq : SqT K H' a vs := SqT.monoF g.sub (SqT.monoF l.F h)
  have hq' : SqT K H' b us := SqT.monoF g.sub (SqT.monoF l.F h')
  refine ⟨fun d e => ?_, fun hl => ⟨vs, us, hq, hq', by rw [zipD_len, r.length, r'.length] at hl; omega⟩⟩
  obtain ⟨x, y, e1, e2, rfl⟩ := zipD_get _ _ _ _ e
  obtain ⟨v, ev, rv⟩ := r.get e1
  obtain ⟨u, eu, ru⟩ := r'.get e2
  refine ⟨⟨vs, us, v, u, hq, hq', ev, eu⟩, fun x H2 y => ?_⟩
  obtain ⟨T, x', y', rfl, nT, rfl, y1, y2⟩ := y
  have h1 := y1 vs hq
  have h2 := y2 us hq'
  rw [ev] at h1; cases h1
  rw [eu] at h2; cases h2
  exact ⟨w'.new T (.tup [v, u]), Ext.newF g nT, g.new nT, .tup upd_same (.cons ((rv.mono l).mono (Le.new (g.noneF nT))) (.cons ((ru.mono l).mono (Le.new (g.noneF nT))) .nil))⟩
def chD (x : Str) : List D := x.cps.toList.map fun c => .str ⟨#[c]⟩
theorem itok_str (x : Str) : ItOk K w (Its x) (chD x) := fun w' H' S' i l g => by
  refine ⟨fun d e => ?_, fun hl => (by simpa [chD] using Nat.le_of_eq hl.symm : x.cps.size ≤ i)⟩
  have hi : i < x.cps.size := by have := (List.getElem?_eq_some_iff.mp e).1; simpa [chD] using this
  refine ⟨hi, fun v H2 y => ?_⟩
  obtain ⟨rfl, c, hc, rfl⟩ := y
  refine ⟨w', .refl _ _, g, ?_⟩
  unfold chD at e
  rw [List.getElem?_map, Array.getElem?_toList, hc] at e
  cases e
  exact .str _
end
def iEn (f : AF) : IF := fun ρ S => match f ρ S with
  | .ok [d] S1 => (match itemsD d with
    | some ds => if ds.length < LIM then .ok (enD 0 ds) S1 else .stuck
    | none => .stuck)
  | .ok _ _ => .stuck
  | .exn x S1 => .exn x S1
  | .stuck => .stuck
def iZip (f : AF) : IF := fun ρ S => match f ρ S with
  | .ok [.lst a, .lst b] S1 => if a.length < LIM then .ok (zipD a b) S1 else .stuck
  | .ok [.tup a, .tup b] S1 => if a.length < LIM then .ok (zipD a b) S1 else .stuck
  | .ok _ _ => .stuck
  | .exn x S1 => .exn x S1
  | .stuck => .stuck
def iStr (f : EF) : IF := fun ρ S => match f ρ S with
  | .ok (.str x) S1 => if x.length < LIM then .ok (chD x) S1 else .stuck
  | .ok _ _ => .stuck
  | .exn x S1 => .exn x S1
  | .stuck => .stuck
theorem itemsD_some {d : D} {ds : List D} (h : itemsD d = some ds) : d = .lst ds ∨ d = .tup ds ∨ d = .ctp ds := by
  cases d <;> simp [itemsD] at h <;> subst h <;> simp
section
variable {X : Cx} {W : WZ} {O : List Nat} {tg e e' : Expr} {es : List Expr} {f : EF} {fa : AF} {k : Kd} {elts : List Expr} {kk : Nat} {p pos tpos : Pos}
theorem di_str (he : DE k X W O e f) : DI X W O tg e (iStr f) := by
  refine ⟨(pi_str he.pe).imp ?_⟩
  rintro σ H Q ⟨ent, w, ρ, S, r, p⟩
  refine ⟨ent, w, ρ, S, r, ?_⟩
  unfold iStr at p
  cases e1 : f ρ S with
  | stuck => rw [e1] at p; exact p
  | exn x S1 => rw [e1] at p; exact p
  | ok d S1 =>
    rw [e1] at p
    intro v H1 w1 x1 g1 z
    cases d with
    | str x =>
      have vw := (z.ext (H1 := H1) (.refl _ _)).vw g1
      cases vw
      dsimp only at p
      split at p
      · rename_i hl
        exact ⟨x, rfl, p _ H1 w1 x1 g1 (itok_str x) (by unfold chD; rw [List.length_map, Array.length_toList]; exact Nat.le_of_lt (lim_size hl))⟩
      · exact p.elim
    | _ => exact p.elim
theorem di_en (ha : DA X W O [e] fa) (hm : X.mg "enumerate" = none) (hg : Gl X "enumerate" := by rfl) (hs : starEach [e] X.env = [(false, eval e X.env)] := by rfl) : DI X W O (.Tuple elts kk tpos) (.Call (.Name "enumerate" p) [e] [] pos) (iEn fa) := by
  refine ⟨((pi_enum hg hm ha.pa hs).or (pi_enumT hg hm ha.pa hs)).imp ?_⟩
  rintro σ H Q ⟨ent, w, ρ, S, r, p⟩
  unfold iEn at p
  cases e1 : fa ρ S with
  | stuck => rw [e1] at p; exact p.elim
  | exn x S1 => rw [e1] at p; exact .inl ⟨ent, w, ρ, S, r, by rw [e1]; exact p⟩
  | ok ds S1 =>
    rw [e1] at p
    match ds, p with
    | [d], p =>
      dsimp only at p
      cases e2 : itemsD d with
      | none => rw [e2] at p; exact p.elim
      | some xs =>
        rw [e2] at p
        dsimp only at p
        split at p
        · rename_i hl
          have hz : (enD 0 xs).length ≤ sizeLine := by rw [enD_len]; exact Nat.le_of_lt (lim_size hl)
          rcases itemsD_some e2 with rfl | rfl | rfl
          · refine .inl ⟨ent, w, ρ, S, r, ?_⟩
            rw [e1]
            intro vs H1 w1 x1 g1 z
            cases z with
            | cons h t =>
              cases t
              cases h with
              | lst h rr => exact ⟨_, _, rfl, SqL.monoF g1.sub h, p _ H1 w1 x1 g1 (itok_en h rr) hz⟩
          · refine .inr ⟨ent, w, ρ, S, r, ?_⟩
            rw [e1]
            intro vs H1 w1 x1 g1 z
            cases z with
            | cons h t =>
              cases t
              cases h with
              | tup h rr => exact ⟨_, _, rfl, SqT.of (g1.sub _ _ h), p _ H1 w1 x1 g1 (itok_enT (SqT.of h) rr) hz⟩
          · refine .inr ⟨ent, w, ρ, S, r, ?_⟩
            rw [e1]
            intro vs H1 w1 x1 g1 z
            cases z with
            | cons h t =>
              cases t
              cases h with
              | ctp h rr => exact ⟨_, _, rfl, SqT.monoF none_le h, p _ H1 w1 x1 g1 (itok_enT (SqT.monoF none_le h) rr) hz⟩
        · exact p.elim
    | [], p => exact p.elim
    | _ :: _ :: _, p => exact p.elim
theorem di_zip (ha : DA X W O [e, e'] fa) (hm : X.mg "zip" = none) (hg : Gl X "zip" := by rfl) (hs : starEach [e, e'] X.env = (false, eval e X.env) :: starEach [e'] X.env := by rfl) (hpl : (backTo pos (starEach [e'] X.env)).any (·.1) = false := by rfl) : DI X W O (.Tuple elts kk tpos) (.Call (.Name "zip" p) [e, e'] [] pos) (iZip fa) := by
  refine ⟨((pi_zip hg hm ha.pa hs hpl).or (RZ.pi_zipA hg hm ha.pa hs hpl)).imp ?_⟩
  rintro σ H Q ⟨ent, w, ρ, S, r, p⟩
  unfold iZip at p
  cases e1 : fa ρ S with
  | stuck => rw [e1] at p; exact p.elim
  | exn x S1 => rw [e1] at p; exact .inl ⟨ent, w, ρ, S, r, by rw [e1]; exact p⟩
  | ok ds S1 =>
    rw [e1] at p
    match ds, p with
    | [.lst a, .lst b], p =>
      dsimp only at p
      split at p
      · rename_i hl
        have hz : (zipD a b).length ≤ sizeLine := by rw [zipD_len]; exact Nat.le_trans (Nat.min_le_left _ _) (Nat.le_of_lt (lim_size hl))
        refine .inl ⟨ent, w, ρ, S, r, ?_⟩
        rw [e1]
        intro vs H1 w1 x1 g1 z
        cases z with
        | cons h t => cases t with
          | cons h' t => cases t; cases h with
            | lst h rr => cases h' with
              | lst h' rr' => exact ⟨_, _, _, _, rfl, SqL.monoF g1.sub h, SqL.monoF g1.sub h', p _ H1 w1 x1 g1 (itok_zip h rr h' rr') hz⟩
      · exact p.elim
    | [.tup a, .tup b], p =>
      dsimp only at p
      split at p
      · rename_i hl
        have hz : (zipD a b).length ≤ sizeLine := by rw [zipD_len]; exact Nat.le_trans (Nat.min_le_left _ _) (Nat.le_of_lt (lim_size hl))
        refine .inr ⟨ent, w, ρ, S, r, ?_⟩
        rw [e1]
        intro vs H1 w1 x1 g1 z
        cases z with
        | cons h t => cases t with
          | cons h' t => cases t; cases h with
            | tup h rr => cases h' with
              | tup h' rr' => exact ⟨_, _, _, _, rfl, .inr ⟨SqT.of (g1.sub _ _ h), SqT.of (g1.sub _ _ h'), p _ H1 w1 x1 g1 (itok_zipT (SqT.of h) rr (SqT.of h') rr') hz⟩⟩
      · exact p.elim
end
end DL

/-! several names at once; what is changed in place -/
namespace DL
open PySem PySem.Spec PyProof.Rows L2

/-! ### expressions of several kinds -/
inductive KPL (K : PySem.W.Frag) : List Kd → Hp → Wit → Hp → List D → List V → List Addr → Prop
  | nil {H0 : Hp} {w : Wit} {H : Hp} : KPL K [] H0 w H [] [] []
  | e {ks : List Kd} {H0 : Hp} {w : Wit} {H : Hp} {ds : List D} {vs : List V} {L : List Addr} {d : D} {v : V} (h : Rep K w d v) (t : KPL K ks H0 w H ds vs L) : KPL K (.e :: ks) H0 w H (d :: ds) (v :: vs) L
  | f {ks : List Kd} {H0 : Hp} {w : Wit} {H : Hp} {ds : List D} {vs : List V} {L : List Addr} {d : D} {a : Addr} (n : H0 a = none) (h : Own K w H d a) (na : a ∉ L) (t : KPL K ks H0 w H ds vs L) : KPL K (.f :: ks) H0 w H (d :: ds) (.ref a :: vs) (a :: L)
theorem KPL.later {K : PySem.W.Frag} {ks : List Kd} {w w1 w' : Wit} {H H1 H' : Hp} {ds : List D} {vs : List V} {L : List Addr} (x : Ext w H w1 H1) (h : KPL K ks H1 w' H' ds vs L) : KPL K ks H w' H' ds vs L := by
  induction h with
  | nil => exact .nil
  | e h t ih => exact .e h (ih x)
  | @f ks H0 w H ds vs L d a n h na t ih =>
    refine .f ?_ h na (ih x)
    cases q : (show Hp from _) a with
    | none => exact q
    | some o => exact absurd n (x.there a (by rw [q]; simp))
theorem KPL.none {K : PySem.W.Frag} {ks : List Kd} {w' : Wit} {H H' : Hp} {ds : List D} {vs : List V} {L : List Addr} (h : KPL K ks H w' H' ds vs L) : ∀ a ∈ L, H a = none := by
  induction h with
  | nil => intro a h; exact absurd h (by simp)
  | e h t ih => exact ih
  | f n h na t ih =>
    intro b hb
    rcases List.mem_cons.mp hb with rfl | hb
    · exact n
    · exact ih b hb
theorem KPL.len {K : PySem.W.Frag} {ks : List Kd} {w' : Wit} {H H' : Hp} {ds : List D} {vs : List V} {L : List Addr} (h : KPL K ks H w' H' ds vs L) : vs.length = ks.length := by
  induction h with
  | nil => rfl
  | e h t ih => simp [ih]
  | f n h na t ih => simp [ih]
def PostL (K : PySem.W.Frag) (ks : List Kd) (w : Wit) (H : Hp) (W : WZ) (σ : L2.St) (r : Ress) (Q : List V → Hp → Prop) : Prop := match r with
  | .ok ds S => ∀ vs H' w' L, Ext w H w' H' → Gd K w' H' S → KPL K ks H w' H' ds vs L → Q vs H'
  | .exn x S => ∀ cls dx H' w', Ext w H w' H' → Gd K w' H' S → RepX K w' H' x cls dx → W.wx cls dx σ H'
  | .stuck => False
def rdL (K : PySem.W.Frag) (ks : List Kd) (W : WZ) (O : List Nat) (f : AF) : TA := fun σ H Q => ∃ (ent : Ent W.xc) (w : Wit) (ρ : DEnv) (S : Sto), R K ent O w H σ ρ S ∧ PostL K ks w H W σ (f ρ S) Q
structure DAk (ks : List Kd) (X : Cx) (W : WZ) (O : List Nat) (es : List Expr) (f : AF) : Prop where
  pa : PA X es (rdL X.K ks W O f)
section
variable {X : Cx} {W : WZ} {O : List Nat} {e : Expr} {es : List Expr} {f : EF} {g : AF} {ks : List Kd}
theorem dak_nil : DAk [] X W O [] aNil := ⟨pa_nil.imp fun σ H Q ⟨ent, w, ρ, S, r, p⟩ => p [] H w [] (.refl _ _) r.gd .nil⟩
theorem dak_e (ha : DE .e X W O e f) (hr : DAk ks X W O es g) (hs : starEach (e :: es) X.env = (false, eval e X.env) :: starEach es X.env := by rfl) : DAk (.e :: ks) X W O (e :: es) (aCons f g) := by
  refine ⟨(pa_cons ha.pe hr.pa hs).imp ?_⟩
  rintro σ H Q ⟨ent, w, ρ, S, r, p⟩
  refine ⟨ent, w, ρ, S, r, ?_⟩
  unfold aCons at p
  cases e1 : f ρ S with
  | stuck => rw [e1] at p; exact p
  | exn x S1 => rw [e1] at p; exact p
  | ok d S1 =>
    rw [e1] at p
    refine fun v H1 w1 x1 g1 z1 => ⟨ent, w1, ρ, S1, r.later x1 g1, ?_⟩
    dsimp only at p
    cases e2 : g ρ S1 with
    | stuck => rw [e2] at p; exact p
    | exn x S2 => rw [e2] at p; exact fun cls dx H' w' y g' h => p cls dx H' w' (x1.trans y) g' h
    | ok ds S2 =>
      rw [e2] at p
      exact fun vs H2 w2 L x2 g2 z2 => p (v :: vs) H2 w2 L (x1.trans x2) g2 (.e (Rep.mono x2.le z1) (z2.later x1))
theorem dak_f (ha : DE .f X W O e f) (hr : DAk ks X W O es g) (hs : starEach (e :: es) X.env = (false, eval e X.env) :: starEach es X.env := by rfl) : DAk (.f :: ks) X W O (e :: es) (aCons f g) := by
  refine ⟨(pa_cons ha.pe hr.pa hs).imp ?_⟩
  rintro σ H Q ⟨ent, w, ρ, S, r, p⟩
  refine ⟨ent, w, ρ, S, r, ?_⟩
  unfold aCons at p
  cases e1 : f ρ S with
  | stuck => rw [e1] at p; exact p
  | exn x S1 => rw [e1] at p; exact p
  | ok d S1 =>
    rw [e1] at p
    rintro v H1 w1 x1 g1 ⟨a, rfl, n, o⟩
    refine ⟨ent, w1, ρ, S1, r.later x1 g1, ?_⟩
    dsimp only at p
    cases e2 : g ρ S1 with
    | stuck => rw [e2] at p; exact p
    | exn x S2 => rw [e2] at p; exact fun cls dx H' w' y g' h => p cls dx H' w' (x1.trans y) g' h
    | ok ds S2 =>
      rw [e2] at p
      refine fun vs H2 w2 L x2 g2 z2 => p _ H2 w2 (a :: L) (x1.trans x2) g2 (.f n (o.ext x2) (fun hm => ?_) (z2.later x1))
      exact o.there (z2.none a hm)
end
/-- names set one behind the other -/
def putD' : DEnv → List Nat → List D → DEnv
  | ρ, i :: is, d :: ds => putD' (ρ.set i (some d)) is ds
  | ρ, _, _ => ρ
def putV : L2.St → List Nat → List V → L2.St
  | σ, i :: is, v :: vs => putV (σ.set i (some v)) is vs
  | σ, _, _ => σ
def ownK : List Nat → List Nat → List Kd → List Nat
  | O, i :: is, .f :: ks => ownK (i :: O) is ks
  | O, _ :: is, _ :: ks => ownK O is ks
  | O, _, _ => O
/-- no slot is set twice, none is owned -/
def slotsOk : List Nat → List Nat → List Kd → Bool
  | O, i :: is, .f :: ks => !O.contains i && slotsOk (i :: O) is ks
  | O, i :: is, _ :: ks => !O.contains i && slotsOk O is ks
  | _, [], [] => true
  | _, _, _ => false
theorem slotsOk_len : ∀ {is : List Nat} {O : List Nat} {ks : List Kd}, slotsOk O is ks = true → is.length = ks.length
  | [], _, [], _ => rfl
  | [], _, _ :: _, h => by cases h
  | i :: is, O, [], h => by cases h
  | i :: is, O, k :: ks, h => by
    cases k <;> simp only [slotsOk, Bool.and_eq_true] at h <;> simp [slotsOk_len h.2]
theorem R.puts {K : PySem.W.Frag} {Z : Option XC} {ent : Ent Z} {w : Wit} {H0 H : Hp} {S : Sto} (he : ∀ a, H0 a = none → ent.H a = none) : ∀ {is : List Nat} {ks : List Kd} {ds : List D} {vs : List V} {L : List Addr} {O : List Nat} {σ : L2.St} {ρ : DEnv},
    R K ent O w H σ ρ S → KPL K ks H0 w H ds vs L → slotsOk O is ks = true → (∀ j, j ∈ O → (∃ e, ρ[j]? = some (some e)) → ∀ a ∈ L, σ[j]? ≠ some (some (.ref a))) → R K ent (ownK O is ks) w H (putV σ is vs) (putD' ρ is ds) S := by
  intro is
  induction is with
  | nil =>
    intro ks ds vs L O σ ρ r h hs hd
    cases h with
    | nil => exact r
    | e _ _ => cases hs
    | f _ _ _ _ => cases hs
  | cons i is ih =>
    intro ks ds vs L O σ ρ r h hs hd
    cases h with
    | nil => cases hs
    | @e ks _ _ _ ds vs L d v h t =>
      simp only [slotsOk, Bool.and_eq_true, Bool.not_eq_true'] at hs
      have hi : i ∉ O := fun z => by rw [List.contains_iff_mem.mpr z] at hs; exact Bool.noConfusion hs.1
      refine ih (r.put hi h) t hs.2 fun j hj ⟨e, he'⟩ a ha => ?_
      have ne : i ≠ j := fun z => hi (z ▸ hj)
      rw [List.getElem?_set_ne ne] at he' ⊢
      exact hd j hj ⟨e, he'⟩ a ha
    | @f ks _ _ _ ds vs L d a n h na t =>
      simp only [slotsOk, Bool.and_eq_true, Bool.not_eq_true'] at hs
      have hi : i ∉ O := fun z => by rw [List.contains_iff_mem.mpr z] at hs; exact Bool.noConfusion hs.1
      refine ih (r.putOwn h (he a n) fun j hj _ hj2 => hd j hj hj2 a List.mem_cons_self) t hs.2 fun j hj ⟨e, he'⟩ b hb => ?_
      by_cases z : i = j
      · subst z
        intro q
        by_cases hl : i < σ.length
        · rw [List.getElem?_set_self hl] at q
          cases q
          exact na hb
        · rw [List.getElem?_eq_none (by simpa using hl)] at q; cases q
      · rw [List.getElem?_set_ne z] at he' ⊢
        rcases List.mem_cons.mp hj with rfl | hj
        · exact absurd rfl z
        · exact hd j hj ⟨e, he'⟩ b (List.mem_cons_of_mem _ hb)
def sPar (is : List Nat) (f : AF) : SF := fun ρ S => match f ρ S with
  | .ok ds S1 => .nx (putD' ρ is ds) S1
  | .exn x S1 => .exn x ρ S1
  | .stuck => .stuck
theorem par_of {K : PySem.W.Frag} {L : Lp} {W : WZ} {O is : List Nat} {ks : List Kd} {f : AF} (hs : slotsOk O is ks = true) : ∀ En σ H, rdS K L W O (ownK O is ks) (sPar is f) En σ H → rdL K ks W O f σ H fun vs H1 => vs.length = ks.length ∧ (En.nx (putV σ is vs) H1 ∧ ∀ T, H1 T = none → En.nx (putV σ is vs) (upd H1 T (.tup vs))) := by
  rintro En σ H ⟨ent, w, ρ, S, r, p⟩
  refine ⟨ent, w, ρ, S, r, ?_⟩
  unfold sPar at p
  cases e1 : f ρ S with
  | stuck => rw [e1] at p; exact p
  | exn x S1 => rw [e1] at p; exact exn_of r p
  | ok ds S1 =>
    rw [e1] at p
    intro vs H1 w1 Lf x1 g1 z1
    have hlen : vs.length = ks.length := z1.len
    have r1 := r.later x1 g1
    have he : ∀ a, H a = none → ent.H a = none := fun a ha => by
      cases q : ent.H a with
      | none => rfl
      | some o => exact absurd ha (r.ext.there a (by rw [q]; simp))
    have hd : ∀ j, j ∈ O → (∃ e, ρ[j]? = some (some e)) → ∀ a ∈ Lf, σ[j]? ≠ some (some (.ref a)) := fun j hj ⟨e, he'⟩ a ha q => by
      obtain ⟨b, s1, s2, _⟩ := r.own j e he' hj
      rw [q] at s1; cases s1
      exact s2.there (z1.none a ha)
    refine ⟨hlen, ?_, fun T nT => ?_⟩
    · exact p w1 H1 _ (R.puts he r1 z1 hs hd)
    · have x2 : Ext w1 H1 w1 (upd H1 T (.tup vs)) := Ext.newO w1 nT
      exact p w1 _ _ ((R.puts he r1 z1 hs hd).later x2 (g1.newO nT))
section
variable {X : Cx} {W : WZ} {L : Lp} {O : List Nat} {a b c : Expr} {f : AF} {ks : List Kd} {x y z : Str} {px py pz pt pos : Pos} {kt k2 : Nat} {pt2 : Pos}
theorem ds_par (i j : Nat) (ha : DAk ks X W O [a, b] f) (hN : X.N.Nodup) (hs : slotsOk O [i, j] ks = true := by decide) (hij : i ≠ j := by decide) (hc : X.calm = true := by rfl) (hi : X.N[i]? = some x := by rfl) (hj : X.N[j]? = some y := by rfl)
    (hx : X.env.scope.names.lookup x = some .local := by rfl) (hy : X.env.scope.names.lookup y = some .local := by rfl) (hw : swappedStores [.Tuple [.Name x px, .Name y py] kt pt] (.Tuple [a, b] k2 pt2) X.env = pure (some [x, y]) := by rfl)
    (hss : swapsWithSole [.Tuple [.Name x px, .Name y py] kt pt] (.Tuple [a, b] k2 pt2) pos.line X.env = pure false := by rfl) :
    DS X W L O (.Assign [.Tuple [.Name x px, .Name y py] kt pt] (.Tuple [a, b] k2 pt2) pos) (ownK O [i, j] ks) (sPar [i, j] f) := by
  refine ⟨(ps_par hc hN hi hj hij hx hy ha.pa hw hss).imp ?_⟩
  rintro En σ H h
  obtain ⟨ent, w, ρ, S, r, p⟩ := par_of hs En σ H h
  refine ⟨ent, w, ρ, S, r, ?_⟩
  cases e1 : f ρ S with
  | stuck => rw [e1] at p; exact p
  | exn x S1 => rw [e1] at p; exact p
  | ok ds S1 =>
    rw [e1] at p
    intro vs H1 w1 Lf x1 g1 z1
    obtain ⟨hl, q, _⟩ := p vs H1 w1 Lf x1 g1 z1
    rw [← slotsOk_len hs] at hl
    match vs, hl, q with
    | [v1, v2], _, q => exact ⟨v1, v2, rfl, q⟩
theorem ds_par3 (i j l : Nat) (ha : DAk ks X W O [a, b, c] f) (hN : X.N.Nodup) (hs : slotsOk O [i, j, l] ks = true := by decide) (hij : i ≠ j := by decide) (hil : i ≠ l := by decide) (hjl : j ≠ l := by decide) (hc : X.calm = true := by rfl) (hi : X.N[i]? = some x := by rfl) (hj : X.N[j]? = some y := by rfl) (hl : X.N[l]? = some z := by rfl)
    (hx : X.env.scope.names.lookup x = some .local := by rfl) (hy : X.env.scope.names.lookup y = some .local := by rfl) (hz : X.env.scope.names.lookup z = some .local := by rfl) (hw : swappedStores [.Tuple [.Name x px, .Name y py, .Name z pz] kt pt] (.Tuple [a, b, c] k2 pt2) X.env = pure (some [x, y, z]) := by rfl)
    (hss : swapsWithSole [.Tuple [.Name x px, .Name y py, .Name z pz] kt pt] (.Tuple [a, b, c] k2 pt2) pos.line X.env = pure false := by rfl) :
    DS X W L O (.Assign [.Tuple [.Name x px, .Name y py, .Name z pz] kt pt] (.Tuple [a, b, c] k2 pt2) pos) (ownK O [i, j, l] ks) (sPar [i, j, l] f) := by
  refine ⟨(ps_par3 hc hN hi hj hl hij hil hjl hx hy hz ha.pa hw hss).imp ?_⟩
  rintro En σ H h
  obtain ⟨ent, w, ρ, S, r, p⟩ := par_of hs En σ H h
  refine ⟨ent, w, ρ, S, r, ?_⟩
  cases e1 : f ρ S with
  | stuck => rw [e1] at p; exact p
  | exn x S1 => rw [e1] at p; exact p
  | ok ds S1 =>
    rw [e1] at p
    intro vs H1 w1 Lf x1 g1 z1
    obtain ⟨hl, q, _⟩ := p vs H1 w1 Lf x1 g1 z1
    rw [← slotsOk_len hs] at hl
    match vs, hl, q with
    | [v1, v2, v3], _, q => exact ⟨v1, v2, v3, rfl, q⟩
/-- the tuple path -/
def gNs : List Nat → TGs
  | [] => gNil
  | i :: is => gCons (gName i) (gNs is)
theorem gNs_of : ∀ {is : List Nat} {vs : List V} {σ : L2.St} {H : Hp} {Q : L2.St → Hp → Prop}, vs.length = is.length → Q (putV σ is vs) H → gNs is vs σ H Q
  | [], [], _, _, _, _, q => ⟨rfl, q⟩
  | [], _ :: _, _, _, _, h, _ => by cases h
  | _ :: _, [], _, _, _, h, _ => by cases h
  | i :: is, v :: vs, σ, H, Q, h, q => ⟨v, vs, rfl, gNs_of (by simpa using h) q⟩
theorem ds_parT {tgs es : List Expr} (is : List Nat) (ha : DAk ks X W O es f) (hg : PGs X tgs (gNs is)) (hs : slotsOk O is ks = true := by decide) (hlen : tgs.length = is.length := by rfl) (hz : is.length ≤ 1000 := by decide) (hc : X.calm = true := by rfl) (hn : (assignEach tgs X.env).length = tgs.length := by rfl) (hst : (assignEach tgs X.env).findIdx? (·.1) = none := by rfl)
    (hss : swapsWithSole [.Tuple tgs kt pt] (.Tuple es k2 pt2) pos.line X.env = pure false := by rfl) (hw : swappedStores [.Tuple tgs kt pt] (.Tuple es k2 pt2) X.env = pure none := by rfl) (h1 : (assignEach [.Tuple tgs kt pt] X.env).map (·.2) = [assign (.Tuple tgs kt pt) X.env] := by rfl) :
    DS X W L O (.Assign [.Tuple tgs kt pt] (.Tuple es k2 pt2) pos) (ownK O is ks) (sPar is f) := by
  refine ⟨(ps_asg (pe_tup ha.pa) (pg_tup hc hg hn hst) hss hw h1).imp ?_⟩
  rintro En σ H h
  obtain ⟨ent, w, ρ, S, r, p⟩ := par_of hs En σ H h
  refine ⟨ent, w, ρ, S, r, ?_⟩
  cases e1 : f ρ S with
  | stuck => rw [e1] at p; exact p
  | exn x S1 => rw [e1] at p; exact p
  | ok ds S1 =>
    rw [e1] at p
    intro vs H1 w1 Lf x1 g1 z1
    obtain ⟨hl, _, q⟩ := p vs H1 w1 Lf x1 g1 z1
    rw [← slotsOk_len hs] at hl
    refine ⟨by rw [hl]; exact Nat.le_trans hz (by decide), fun T nT => ?_⟩
    exact ⟨T, vs, rfl, SqT.of upd_same, by rw [hlen, hl], gNs_of hl (q T nT)⟩
end

/-! ### own lists, own dicts -/
def putKD (kvs : List (D × D)) (t : D → Bool) (k v : D) : List (D × D) := if kvs.any (fun kv => t kv.1) then kvs.map (fun kv => if t kv.1 then (kv.1, v) else kv) else kvs ++ [(k, v)]
def setF (d k v : D) : Option D := match d with
  | .dct kvs => match kOf k with
    | some kk => if kvs.length < LIM then some (.dct (putKD kvs (fun x => decide (kOf x = some kk)) k v)) else none
    | none => none
  | .dtt kvs => match tOf k with
    | some kk => if kvs.length < LIM then some (.dtt (putKD kvs (fun x => decide (tOf x = some kk)) k v)) else none
    | none => none
  | .lst ds => match k with
    | .int i => (ixN ds.length i).map fun j => .lst (ds.set j v)
    | _ => none
  | _ => none
theorem kD_kOf {d : D} {k : L2.Key} (h : kOf d = some k) : d = kD k := by
  cases d <;> simp [kOf] at h <;> subst h <;> rfl
theorem ksOf_map : ∀ {ds : List D} {ks : List L2.Key}, ksOf ds = some ks → ds = ks.map kD
  | [], ks, h => by cases h; rfl
  | d :: ds, ks, h => by
    simp only [ksOf] at h
    cases e1 : kOf d with
    | none => simp [e1] at h
    | some k =>
      cases e2 : ksOf ds with
      | none => simp [e1, e2] at h
      | some ks' => simp [e1, e2] at h; subst h; rw [kD_kOf e1, ksOf_map e2]; rfl
section
variable {K : PySem.W.Frag} {w : Wit} {d : D} {v : V} {t : D → Bool}
theorem RepK.any {k : L2.Key} (ht : ∀ kk, t (kD kk) = decide (kk = k)) : ∀ {ds : List (D × D)} {vs : List (L2.Key × V)}, RepK K w ds vs → (ds.any fun kv => t kv.1) = vs.any fun kv => decide (kv.1 = k)
  | _, _, .nil => rfl
  | _, _, .cons h r => by simp only [List.any_cons, ht, RepK.any ht r]
theorem RepK.upd {k : L2.Key} (ht : ∀ kk, t (kD kk) = decide (kk = k)) (rv : Rep K w d v) : ∀ {ds : List (D × D)} {vs : List (L2.Key × V)}, RepK K w ds vs → RepK K w (ds.map fun kv => if t kv.1 then (kv.1, d) else kv) (vs.map fun kv => if kv.1 = k then (kv.1, v) else kv)
  | _, _, .nil => .nil
  | _, _, @RepK.cons _ _ k' d' v' ds vs h r => by
    simp only [List.map_cons, ht, decide_eq_true_eq]
    by_cases e : k' = k
    · rw [if_pos e, if_pos e]; exact .cons rv (RepK.upd ht rv r)
    · rw [if_neg e, if_neg e]; exact .cons h (RepK.upd ht rv r)
theorem RepK.snoc {k : L2.Key} (rv : Rep K w d v) : ∀ {ds : List (D × D)} {vs : List (L2.Key × V)}, RepK K w ds vs → RepK K w (ds ++ [(kD k, d)]) (vs ++ [(k, v)])
  | _, _, .nil => .cons rv .nil
  | _, _, .cons h r => .cons h (RepK.snoc rv r)
theorem RepK.put' {k : L2.Key} {ds : List (D × D)} {vs : List (L2.Key × V)} (ht : ∀ kk, t (kD kk) = decide (kk = k)) (h : RepK K w ds vs) (r : Rep K w d v) : RepK K w (putKD ds t (kD k) d) (putK vs k v) := by
  unfold putKD putK
  rw [RepK.any ht h]
  split
  · exact RepK.upd ht r h
  · exact RepK.snoc r h
theorem RepT.any {k : List L2.Key} (ht : ∀ kk : List L2.Key, t (.tup (kk.map kD)) = decide (kk = k)) : ∀ {ds : List (D × D)} {vs : List (List L2.Key × V)}, RepT K w ds vs → (ds.any fun kv => t kv.1) = vs.any fun kv => decide (kv.1 = k)
  | _, _, .nil => rfl
  | _, _, .cons h r => by simp only [List.any_cons, ht, RepT.any ht r]
theorem RepT.upd {k : List L2.Key} (ht : ∀ kk : List L2.Key, t (.tup (kk.map kD)) = decide (kk = k)) (rv : Rep K w d v) : ∀ {ds : List (D × D)} {vs : List (List L2.Key × V)}, RepT K w ds vs → RepT K w (ds.map fun kv => if t kv.1 then (kv.1, d) else kv) (vs.map fun kv => if kv.1 = k then (kv.1, v) else kv)
  | _, _, .nil => .nil
  | _, _, @RepT.cons _ _ k' d' v' ds vs h r => by
    simp only [List.map_cons, ht, decide_eq_true_eq]
    by_cases e : k' = k
    · rw [if_pos e, if_pos e]; exact .cons rv (RepT.upd ht rv r)
    · rw [if_neg e, if_neg e]; exact .cons h (RepT.upd ht rv r)
theorem RepT.snoc {k : List L2.Key} (rv : Rep K w d v) : ∀ {ds : List (D × D)} {vs : List (List L2.Key × V)}, RepT K w ds vs → RepT K w (ds ++ [(.tup (k.map kD), d)]) (vs ++ [(k, v)])
  | _, _, .nil => .cons rv .nil
  | _, _, .cons h r => .cons h (RepT.snoc rv r)
theorem RepK.put {k : L2.Key} {ds : List (D × D)} {vs : List (L2.Key × V)} (h : RepK K w ds vs) (r : Rep K w d v) : RepK K w (putKD ds (fun x => decide (kOf x = some k)) (kD k) d) (putK vs k v) :=
  h.put' (fun kk => by simp [kOf_kD]) r
theorem RepT.put' {k : List L2.Key} {ds : List (D × D)} {vs : List (List L2.Key × V)} (ht : ∀ kk : List L2.Key, t (.tup (kk.map kD)) = decide (kk = k)) (h : RepT K w ds vs) (r : Rep K w d v) : RepT K w (putKD ds t (.tup (k.map kD)) d) (putK vs k v) := by
  unfold putKD putK
  rw [RepT.any ht h]
  split
  · exact RepT.upd ht r h
  · exact RepT.snoc r h
theorem RepT.put {k : List L2.Key} {ds : List (D × D)} {vs : List (List L2.Key × V)} (h : RepT K w ds vs) (r : Rep K w d v) : RepT K w (putKD ds (fun x => decide (tOf x = some k)) (.tup (k.map kD)) d) (putK vs k v) :=
  h.put' (fun kk => by simp [tOf, ksOf_kD]) r
end
theorem RepK.tup_of {d : D} {k : List L2.Key} (h : tOf d = some k) : d = .tup (k.map kD) := by
  cases d <;> simp [tOf] at h
  rw [ksOf_map h]
section
variable {X : Cx} {W : WZ} {L : Lp} {O : List Nat} {e ek ev : Expr} {fe fk fv : EF} {k kk : Kd} {x : Str} {p pos pos' apos cpos : Pos}
/-- d[k] = v, d a slot's own -/
def sPut (i : Nat) (fk fv : EF) : SF := fun ρ S => sBind (fv ρ S) ρ fun v S1 => match ρ[i]? with
  | some (some d) => sBind (fk ρ S1) ρ fun k S2 => (match setF d (deref S2 k) v with
    | some d' => .nx (ρ.set i (some d')) S2
    | none => .stuck)
  | _ => .stuck
theorem own_dct {K : PySem.W.Frag} {w : Wit} {H : Hp} {d : D} {a : Addr} {vs : List (L2.Key × V)} {ds : List (D × D)} (h : Own K w H d a) (r : RepK K w ds vs) : Own K w (upd H a (.dK vs)) (.dct ds) a := ⟨h.1, h.2.1, vs, upd_same, r⟩
theorem own_dtt {K : PySem.W.Frag} {w : Wit} {H : Hp} {d : D} {a : Addr} {vs : List (List L2.Key × V)} {ds : List (D × D)} (h : Own K w H d a) (r : RepT K w ds vs) : Own K w (upd H a (.dT vs)) (.dtt ds) a := ⟨h.1, h.2.1, vs, upd_same, r⟩
theorem own_lst {K : PySem.W.Frag} {w : Wit} {H : Hp} {d : D} {a : Addr} {vs : List V} {ds : List D} (h : Own K w H d a) (r : Reps K w ds vs) : Own K w (upd H a (.lst vs)) (.lst ds) a := ⟨h.1, h.2.1, vs, upd_same, r⟩
/-- an own dict gets an entry -/
theorem dput_own {K : PySem.W.Frag} {w : Wit} {H : Hp} {d dk dv d' : D} {a : Addr} {y v : V} (hs : ∀ a o, w.F a = some o → H a = some o) (h : Own K w H d a) (hk : Vw K w H dk y) (hv : Rep K w dv v) (e : setF d dk dv = some d') (hn : ∀ ds, d ≠ .lst ds) : ∃ o, DPut H a y v (upd H a o) ∧ Own K w (upd H a o) d' a := by
  have h3 := h.2.2
  cases d with
  | dct kvs =>
    obtain ⟨vs, hH, r⟩ := h3
    simp only [setF] at e
    cases e1 : kOf dk with
    | none => rw [e1] at e; cases e
    | some kk =>
      rw [e1] at e
      dsimp only at e
      split at e
      · rename_i hl
        cases e
        have ey := kOf_vw hk e1
        rw [kD_kOf e1]
        exact ⟨_, .inl ⟨vs, kk, hH, ey, by rw [← r.length]; exact lim_size hl, rfl⟩, own_dct h (r.put hv)⟩
      · cases e
  | dtt kvs =>
    obtain ⟨vs, hH, r⟩ := h3
    simp only [setF] at e
    cases e1 : tOf dk with
    | none => rw [e1] at e; cases e
    | some kk =>
      rw [e1] at e
      dsimp only at e
      split at e
      · rename_i hl
        cases e
        have ed := RepK.tup_of e1
        subst ed
        cases hk with
        | @tup b us es hb rb =>
          have eu : us = kk.map kV := ksOf_reps rb (ksOf_kD kk)
          exact ⟨_, .inr ⟨vs, kk, b, hH, rfl, by rw [hs _ _ hb, eu], by rw [← r.length]; exact lim_size hl, rfl⟩, own_dtt h (r.put hv)⟩
      · cases e
  | lst ds => exact absurd rfl (hn ds)
  | _ => exact h3.elim
theorem lput_own {K : PySem.W.Frag} {w : Wit} {H : Hp} {ds : List D} {dk dv d' : D} {a : Addr} {y v : V} (h : Own K w H (.lst ds) a) (hk : Vw K w H dk y) (hv : Rep K w dv v) (e : setF (.lst ds) dk dv = some d') : ∃ xs n j, y = .int n ∧ H a = some (.lst xs) ∧ ixN xs.length n = some j ∧ Own K w (upd H a (.lst (xs.set j v))) d' a := by
  obtain ⟨vs, hH, r⟩ := h.2.2
  simp only [setF] at e
  cases hk with
  | int n =>
    dsimp only at e
    cases e1 : ixN ds.length n with
    | none => rw [e1] at e; cases e
    | some j =>
      rw [e1] at e; cases e
      exact ⟨vs, n, j, rfl, hH, by rw [← r.length]; exact e1, own_lst h (r.set j hv)⟩
  | _ => cases e
theorem put_of {K : PySem.W.Frag} {i : Nat} (hi : i ∈ O) : ∀ En σ H, rdS K L W O O (sPut i fk fv) En σ H →
    sDPut (tVar i) (rd K kk W O fk) (rd K .e W O fv) En σ H ∨ tAsg (rd K .e W O fv) (gSub (tVar i) (rd K kk W O fk) rSetL) En σ H := by
  rintro En σ H ⟨ent, w, ρ, S, r, p⟩
  by_cases hls : ∃ ds, ρ[i]? = some (some (.lst ds))
  · obtain ⟨ds, hd⟩ := hls
    refine .inr ⟨ent, w, ρ, S, r, SPost.bind r p fun v S1 vv H1 w1 x1 g1 z1 q1 => ?_⟩
    have r1 := r.later x1 g1
    rw [hd] at q1
    obtain ⟨a, s1, o1, _⟩ := r1.own i _ hd hi
    refine ⟨.ref a, s1, ent, w1, ρ, S1, r1, SPost.bind r1 q1 fun dk S2 y H2 w2 x2 g2 z2 q2 => ?_⟩
    have r2 := r1.later x2 g2
    obtain ⟨a', s2, o2, _⟩ := r2.own i _ hd hi
    rw [s1] at s2; cases s2
    have vk := (z2.ext (H1 := H2) (.refl _ _)).vw g2
    cases e1 : setF (.lst ds) (deref S2 dk) v with
    | none => rw [e1] at q2; exact q2.elim
    | some d' =>
      rw [e1] at q2
      obtain ⟨xs, n, j, ey, hH, hj, ho⟩ := lput_own o2 vk (Rep.mono x2.le z1) e1
      exact ⟨a, xs, n, j, rfl, ey, hH, hj, q2 w2 _ σ (r2.upd hi hd s1 ho)⟩
  · refine .inl ⟨ent, w, ρ, S, r, SPost.bind r p fun v S1 vv H1 w1 x1 g1 z1 q1 => ?_⟩
    have r1 := r.later x1 g1
    cases e0 : ρ[i]? with
    | none => rw [e0] at q1; exact q1.elim
    | some o => cases o with
      | none => rw [e0] at q1; exact q1.elim
      | some d =>
        rw [e0] at q1
        have hn : ∀ ds, d ≠ .lst ds := fun ds z => hls ⟨ds, by rw [e0, z]⟩
        obtain ⟨a, s1, o1, _⟩ := r1.own i _ e0 hi
        refine ⟨.ref a, s1, ent, w1, ρ, S1, r1, SPost.bind r1 q1 fun dk S2 y H2 w2 x2 g2 z2 q2 => ?_⟩
        have r2 := r1.later x2 g2
        obtain ⟨a', s2, o2, _⟩ := r2.own i _ e0 hi
        rw [s1] at s2; cases s2
        have vk := (z2.ext (H1 := H2) (.refl _ _)).vw g2
        cases e1 : setF d (deref S2 dk) v with
        | none => rw [e1] at q2; exact q2.elim
        | some d' =>
          rw [e1] at q2
          obtain ⟨o, hp, ho⟩ := dput_own g2.sub o2 vk (Rep.mono x2.le z1) e1 hn
          exact ⟨a, _, rfl, hp, q2 w2 _ σ (r2.upd hi e0 s1 ho)⟩
theorem _root_.L2.PS.or {X : Cx} {st : Stmt} {t t' : TS} (h : PS X st t) (h' : PS X st t') : PS X st (fun D σ H => t D σ H ∨ t' D σ H) :=
  ⟨fun pins s σ H D I q => q.elim (h.run pins s σ H D I) (h'.run pins s σ H D I)⟩
theorem ds_put (i : Nat) (hu : X.A.units + 64 < cLine) (hk : DE kk X W O ek fk) (hv : DE .e X W O ev fv) (hi : i ∈ O := by decide) (hN : X.N[i]? = some x := by rfl) (hvi : Vis X.env.scope x := by first | exact Or.inl rfl | exact Or.inr (Or.inl rfl) | exact Or.inr (Or.inr rfl)) (hd : (x == ("__debug__" : Str)) = false := by decide) (hcd : (x == ("__classdict__" : Str)) = false := by decide)
    (hsw : swapsWith ev (some (.Subscript (.Name x p) ek pos')) pos.line X.env = pure false := by rfl)
    (hs : swapsWithSole [.Subscript (.Name x p) ek pos'] ev pos.line X.env = pure false := by rfl) (hw : swappedStores [.Subscript (.Name x p) ek pos'] ev X.env = pure none := by rfl)
    (h1 : (assignEach [.Subscript (.Name x p) ek pos'] X.env).map (·.2) = [assign (.Subscript (.Name x p) ek pos') X.env] := by rfl)
    (ha : ∀ v, assign (.Subscript (.Name x p) ek pos') X.env v = (do
      let ov ← holding [v] (eval (.Name x p) X.env)
      let iv ← holding [v, ov] (eval ek X.env)
      standAt pos'
      holding [v, ov, iv] (setItem ov iv v)
      release [v, ov, iv] []) := by intro _; rfl) :
    DS X W L O (.Assign [.Subscript (.Name x p) ek pos'] ev pos) O (sPut i fk fv) :=
  ⟨((ps_dput (by omega) (pe_var hN hvi hd hcd) hk.pe hv.pe hsw).or (ps_asg hv.pe (pg_sub (pe_var hN hvi hd hcd) hk.pe set_list ha) hs hw h1)).imp (put_of hi)⟩
/-- xs.append(e), xs a slot's own -/
def sApp (i : Nat) (f : EF) : SF := fun ρ S => match ρ[i]? with
  | some (some (.lst ds)) => sBind (f ρ S) ρ fun d S1 => if ds.length < LIM then .nx (ρ.set i (some (.lst (ds ++ [d])))) S1 else .stuck
  | _ => .stuck
theorem app_of {K : PySem.W.Frag} {i : Nat} (hi : i ∈ O) : ∀ En σ H, rdS K L W O O (sApp i fe) En σ H → tDrop (tBM K "list" rAppend (tVar i) (tCons (rd K .e W O fe) tNil)) En σ H := by
  rintro En σ H ⟨ent, w, ρ, S, r, p⟩
  unfold sApp at p
  match e0 : ρ[i]?, p with
  | some (some (.lst ds)), p =>
    obtain ⟨a, s1, o1, _⟩ := r.own i _ e0 hi
    obtain ⟨vs0, hH0, _⟩ := o1.2.2
    refine ⟨.ref a, s1, .inl ⟨rfl, vs0, SqL.of hH0⟩, ent, w, ρ, S, r, SPost.bind r p fun d S1 v H1 w1 x1 g1 z1 q1 => ?_⟩
    have r1 := r.later x1 g1
    obtain ⟨a', s2, o2, _⟩ := r1.own i _ e0 hi
    rw [s1] at s2; cases s2
    obtain ⟨vs, hH, rr⟩ := o2.2.2
    split at q1
    · rename_i hl
      exact ⟨a, vs, v, rfl, rfl, hH, by rw [← rr.length]; exact lim_size hl, q1 w1 _ σ (r1.upd hi e0 s1 (own_lst o2 (rr.append (.cons z1 .nil))))⟩
    · exact q1.elim
theorem ds_app (i : Nat) (he : DE .e X W O e fe) (hi : i ∈ O := by decide) (hN : X.N[i]? = some x := by rfl) (hvi : Vis X.env.scope x := by first | exact Or.inl rfl | exact Or.inr (Or.inl rfl) | exact Or.inr (Or.inr rfl)) (hd : (x == ("__debug__" : Str)) = false := by decide) (hcd : (x == ("__classdict__" : Str)) = false := by decide)
    (hsw : swapsWith (.Call (.Attribute (.Name x p) "append" apos) [e] [] cpos) none pos.line X.env = pure false := by rfl)
    (hb : attributeBase (.Name x p) "append" X.env (eval (.Name x p) X.env) = eval (.Name x p) X.env := by rfl)
    (hf : (((((backTo cpos (starEach [e] X.env)).all fun x => !x.fst) && (backToKw cpos (keywordEach [] X.env)).all fun x => x.fst.isSome) && decide (([e].length + ([] : List Keyword).length + if ([] : List Keyword).isEmpty = true then 0 else 1) < 30)) = true) := by rfl)
    (hl : (apos.endLine == cpos.line) = true := by rfl) (hse : starEach [e] X.env = (false, eval e X.env) :: starEach [] X.env := by rfl) (hpl : ((backTo cpos (starEach [] X.env)).any fun x => x.fst) = false := by rfl) :
    DS X W L O (.Expr (.Call (.Attribute (.Name x p) "append" apos) [e] [] cpos) pos) O (sApp i fe) :=
  ⟨(ps_expr (pe_bm PySem.F.plainAttrs_list PySem.F.slot_list_append PySem.F.type_list_append mt_append (pe_var hN hvi hd hcd) (pa_cons he.pe pa_nil hse) hb hf hl hse hpl) hsw).imp (app_of hi)⟩
end
end DL

/-! lists of the store changed -/
namespace DL
open PySem PySem.Spec PyProof.Rows L2

section
variable {X : Cx} {W : WZ} {L : Lp} {O : List Nat} {e eo ek ev : Expr} {fe fo fk fv : EF} {k ko kk : Kd} {x : Str} {p pos pos' apos cpos : Pos}
def setO (o : SO) (k v : D) : Option SO := match o with
  | .lst ds => (match k with
    | .int i => (ixN ds.length i).map fun j => .lst (ds.set j v)
    | _ => none)
  | _ => none
def sPutO (fo fk fv : EF) : SF := fun ρ S => sBind (fv ρ S) ρ fun v S1 => sBind (fo ρ S1) ρ fun o S2 => match o with
  | .obj n => sBind (fk ρ S2) ρ fun k S3 => (match S3[n]? with
    | some so => (match setO so (deref S3 k) v with
      | some so' => .nx ρ (S3.set n so')
      | none => .stuck)
    | none => .stuck)
  | _ => .stuck
theorem R.sto {K : PySem.W.Frag} {Z : Option XC} {ent : Ent Z} {w : Wit} {H : Hp} {σ : L2.St} {ρ : DEnv} {S : Sto} {O : List Nat} (r : R K ent O w H σ ρ S) {n : Nat} {o o' : SO} {u : HO} (hn : S[n]? = some o) (h : RepO K w (L2.upd H (w.phi n) u) (w.phi n) o') : R K ent O w (L2.upd H (w.phi n) u) σ ρ (S.set n o') := by
  have hm : n < w.m := by rw [r.gd.len]; exact (List.getElem?_eq_some_iff.mp hn).1
  exact r.later (Ext.put w H hm (r.gd.sto n o hn).there) (r.gd.put hn h)
theorem putO_of {K : PySem.W.Frag} : ∀ En σ H, rdS K L W O O (sPutO fo fk fv) En σ H → tAsg (rd K .e W O fv) (gSub (rd K .e W O fo) (rd K kk W O fk) rSetL) En σ H := by
  rintro En σ H ⟨ent, w, ρ, S, r, p⟩
  refine ⟨ent, w, ρ, S, r, SPost.bind r p fun v S1 vv H1 w1 x1 g1 z1 q1 => ?_⟩
  have r1 := r.later x1 g1
  refine ⟨ent, w1, ρ, S1, r1, SPost.bind r1 q1 fun o S2 ov H2 w2 x2 g2 z2 q2 => ?_⟩
  have r2 := r1.later x2 g2
  cases o with
  | obj n =>
    dsimp only at q2
    have z2 : Rep K w2 (.obj n) ov := z2
    cases z2 with
    | obj hm =>
      refine ⟨ent, w2, ρ, S2, r2, SPost.bind r2 q2 fun dk S3 y H3 w3 x3 g3 z3 q3 => ?_⟩
      have r3 := r2.later x3 g3
      have vk := (z3.ext (H1 := H3) (.refl _ _)).vw g3
      cases e1 : S3[n]? with
      | none => rw [e1] at q3; exact q3.elim
      | some so =>
        rw [e1] at q3
        dsimp only at q3
        have hp := g3.sto n so e1
        have ephi : w3.phi n = w2.phi n := x3.le.phi n hm
        cases so with
        | lst ds =>
          obtain ⟨vs, hH, rr⟩ := hp
          simp only [setO] at q3
          generalize deref S3 dk = DK at vk q3
          cases vk with
          | int i =>
            dsimp only at q3
            cases e2 : ixN ds.length i with
            | none => rw [e2] at q3; exact q3.elim
            | some j =>
              rw [e2] at q3
              have hv : Rep K w3 v vv := (Rep.mono x2.le z1).mono x3.le
              refine ⟨w2.phi n, vs, i, j, rfl, rfl, by rw [← ephi]; exact hH, by rw [← rr.length]; exact e2, ?_⟩
              rw [← ephi]
              exact q3 w3 _ σ (R.sto r3 e1 ⟨_, upd_same, rr.set j hv⟩)
          | _ => exact q3.elim
        | _ => exact q3.elim
  | _ => exact q2.elim
theorem ds_putO (ho : DE .e X W O eo fo) (hk : DE kk X W O ek fk) (hv : DE .e X W O ev fv)
    (hs : swapsWithSole [.Subscript eo ek pos'] ev pos.line X.env = pure false := by rfl) (hw : swappedStores [.Subscript eo ek pos'] ev X.env = pure none := by rfl)
    (h1 : (assignEach [.Subscript eo ek pos'] X.env).map (·.2) = [assign (.Subscript eo ek pos') X.env] := by rfl)
    (ha : ∀ v, assign (.Subscript eo ek pos') X.env v = (do
      let ov ← holding [v] (eval eo X.env)
      let iv ← holding [v, ov] (eval ek X.env)
      standAt pos'
      holding [v, ov, iv] (setItem ov iv v)
      release [v, ov, iv] []) := by intro _; rfl) :
    DS X W L O (.Assign [.Subscript eo ek pos'] ev pos) O (sPutO fo fk fv) :=
  ⟨(ps_asg hv.pe (pg_sub ho.pe hk.pe set_list ha) hs hw h1).imp putO_of⟩
end
/-- the row that is laid out at first: the list [a, ..] becomes an object of the store -/
def sNewO (i : Nat) (f : AF) : SF := fun ρ S => match f ρ S with
  | .ok ds S1 => .nx (ρ.set i (some (.obj S1.length))) (S1 ++ [.lst ds])
  | .exn x S1 => .exn x ρ S1
  | .stuck => .stuck
section
variable {K : PySem.W.Frag} {w : Wit} {H : Hp} {S : Sto} {a : Addr} {o : HO} {so : SO}
def Wit.add (w : Wit) (a : Addr) : Wit := { w with phi := fun n => if n = w.m then a else w.phi n, m := w.m + 1 }
theorem Le.add (w : Wit) (a : Addr) : Le w (w.add a) := ⟨fun _ _ h => h, fun n hn => by simp [Wit.add, Nat.ne_of_lt hn], Nat.le_succ _⟩
theorem Gd.add (g : Gd K w H S) (h : H a = none) (hr : RepO K w (upd H a o) a so) : Gd K (w.add a) (upd H a o) (S ++ [so]) where
  len := by simp [Wit.add, g.len]
  sub := fun b u e => by
    have : w.F b = some u := e
    have h2 := g.sub b u this
    rw [upd_ne (fun q => by rw [q, h] at h2; cases h2)]; exact h2
  sto := fun n u e => by
    by_cases hn : n < S.length
    · rw [List.getElem?_append_left hn] at e
      have ep : (w.add a).phi n = w.phi n := (Le.add w a).phi n (by rw [g.len]; exact hn)
      rw [ep]
      refine (g.sto n u e).mono (Le.add w a) fun z hz => ?_
      rw [upd_ne (fun q => by rw [q, h] at hz; cases hz)]; exact hz
    · rw [List.getElem?_append_right (by omega)] at e
      have en : n = S.length := by
        by_cases q : n - S.length = 0
        · omega
        · rw [List.getElem?_eq_none (by simp; omega)] at e; cases e
      subst en
      simp at e
      subst e
      have ep : (w.add a).phi S.length = a := by simp [Wit.add, g.len]
      rw [ep]
      exact hr.mono (Le.add w a) fun z hz => hz
  inj := fun i j hi hj e => by
    have hi' : i < w.m + 1 := hi
    have hj' : j < w.m + 1 := hj
    have np : ∀ n, n < w.m → w.phi n ≠ a := g.nophi h
    simp only [Wit.add] at e
    by_cases q : i = w.m <;> by_cases q' : j = w.m
    · omega
    · rw [if_pos q, if_neg q'] at e; exact absurd e.symm (np j (by omega))
    · rw [if_neg q, if_pos q'] at e; exact absurd e (np i (by omega))
    · rw [if_neg q, if_neg q'] at e; exact g.inj i j (by omega) (by omega) e
  nofz := fun i hi => by
    have hi' : i < w.m + 1 := hi
    show w.F ((w.add a).phi i) = none
    simp only [Wit.add]
    by_cases q : i = w.m
    · rw [if_pos q]; exact g.noneF h
    · rw [if_neg q]; exact g.nofz i (by omega)
theorem Ext.add (g : Gd K w H S) (h : H a = none) : Ext w H (w.add a) (upd H a o) where
  le := Le.add w a
  new := fun n h1 h2 => by
    have h2' : n < w.m + 1 := h2
    have : n = w.m := by omega
    subst this
    simp [Wit.add, h]
  keep := fun b u e => .inr (by rw [upd_ne (fun q => by rw [q, h] at e; cases e)]; exact e)
  there := fun b hb => by rw [upd_ne (fun q : b = a => hb (by rw [q]; exact h))]; exact hb
  fz := fun b hb hF => hF
end
section
variable {X : Cx} {W : WZ} {L : Lp} {O : List Nat} {es : List Expr} {fa : AF} {x : Str} {pos pos' lpos : Pos}
theorem newO_of {K : PySem.W.Frag} {i : Nat} (hO : i ∉ O) (hz : es.length ≤ 1000) (hlen : ∀ ρ S ds S1, fa ρ S = .ok ds S1 → ds.length = es.length) : ∀ En σ H, rdS K L W O O (sNewO i fa) En σ H → tAsg (tLst (rdA K (PRep K) W O fa)) (gName i) En σ H := by
  rintro En σ H ⟨ent, w, ρ, S, r, p⟩
  refine ⟨ent, w, ρ, S, r, ?_⟩
  unfold sNewO at p
  cases e1 : fa ρ S with
  | stuck => rw [e1] at p; exact p
  | exn x S1 => rw [e1] at p; exact exn_of r p
  | ok ds S1 =>
    rw [e1] at p
    intro vs H1 w1 x1 g1 z
    have z : Reps K w1 ds vs := z
    refine ⟨by rw [← z.length, hlen _ _ _ _ e1]; exact Nat.le_trans hz (by decide), fun a na => ?_⟩
    have r1 := r.later x1 g1
    have x2 := Ext.add (o := .lst vs) g1 na
    have g2 := g1.add (so := .lst ds) na ⟨vs, upd_same, z⟩
    refine p _ _ _ ((r1.later x2 g2).put hO ?_)
    have : (w1.add a).phi S1.length = a := by simp [Wit.add, g1.len]
    have q : Rep K (w1.add a) (.obj S1.length) (.ref ((w1.add a).phi S1.length)) := .obj (by simp [Wit.add, g1.len])
    rw [this] at q
    exact q
theorem ds_newO (i : Nat) (ha : DA X W O es fa) (hN : X.N.Nodup) (hlen : ∀ ρ S ds S1, fa ρ S = .ok ds S1 → ds.length = es.length) (hz : es.length ≤ 1000 := by decide) (hO : i ∉ O := by decide) (hi : X.N[i]? = some x := by rfl) (hx : Loc X.env.scope x := by first | exact Or.inl rfl | exact Or.inr rfl) (hs : swapsWith (.List es lpos) (some (.Name x pos')) pos.line X.env = pure false := by rfl) (hf : X.fn x = true ∨ X.env.scope.names.lookup x = some .local := by first | exact .inl rfl | exact .inr rfl | assumption) :
    DS X W L O (.Assign [.Name x pos'] (.List es lpos) pos) O (sNewO i fa) := ⟨(ps_set hN hi hx (pe_lst ha.pa) hs hf).imp (newO_of hO hz hlen)⟩
end
end DL

/-! defs known by name; constants of the module; more operators -/
namespace DL
open PySem PySem.Spec PyProof.Rows L2

/-- the def x, known by name, keeps ff -/
structure Fok (P : Program) (w : World) (K : PySem.W.Frag) (mg : Str → Option Value) (base : Heap) (x : Str) (k : Nat) (ps : List Str) (ff : FF) : Prop where
  ex : ∃ fd, FnOk P w K mg base (L2.CX P w) k (He.ga K x) fd ps (spD K ps.length ff) ∧ Binds K fd ps [] ∧ PySem.W.keepIn K (.ref (He.ga K x)) = true ∧ mg x = some (.ref (He.ga K x))
section
variable {X : Cx} {W : WZ} {O : List Nat} {k : Nat} {ps : List Str} {ff : FF} {x : Str} {p pos : Pos} {e a b : Expr} {es : List Expr} {fa : AF} {f g : EF} {ka kb : Kd}
theorem de_fn (h : Fok X.prog X.w X.K X.mg X.base x k ps ff) (hr : Room k X.A) (tk : Takes X W.wx) (ha : DA X W O (e :: es) fa)
    (hlen : ∀ ρ S ds S1, fa ρ S = .ok ds S1 → ds.length = ps.length) (hg : Gl X x := by rfl)
    (hdb : (x == ("__debug__" : Str)) = false := by decide) (he : starEach (e :: es) X.env = (false, eval e X.env) :: starEach es X.env := by rfl) (hpl : (backTo pos (starEach es X.env)).any (·.1) = false := by rfl) :
    DE .e X W O (.Call (.Name x p) (e :: es) [] pos) (eCall ff fa) := by
  obtain ⟨fd, F, hb, hk, hm⟩ := h.ex
  exact de_call F hr hm hk hb tk ha hlen hg hdb he hpl
/-- a module's text, number -/
theorem de_gstr {z : Str} (hm : ∃ t, X.mg x = some (.str z t)) (hg : Gl X x := by rfl) (hd : (x == ("__debug__" : Str)) = false := by decide) : DE .e X W O (.Name x pos) (eC (.str z)) := by
  obtain ⟨t, hm⟩ := hm
  exact de_glob (v := .str z) hm ⟨t, rfl⟩ (fun _ => .str z) hg hd
theorem de_gint {z : Int} (hm : ∃ t, X.mg x = some (.int z t)) (hg : Gl X x := by rfl) (hd : (x == ("__debug__" : Str)) = false := by decide) : DE .e X W O (.Name x pos) (eC (.int z)) := by
  obtain ⟨t, hm⟩ := hm
  exact de_glob (v := .int z) hm ⟨t, rfl⟩ (fun _ => .int z) hg hd
/-- one sign in a text -/
def signF (x y : D) : Option D := match x, y with
  | .str a, .str z => (match a.cps.toList with
    | [c] => some (.bl (decide (c ∈ z.cps.toList)))
    | _ => none)
  | _, _ => none
theorem op_sign : OpR X (compareOp .In) (r2 X.K .e signF) := by
  intro pins s σ H x y v u Q I rx ry ⟨w, S, d1, d2, d, g, k1, k2, e, q⟩
  have v1 := k1.vw g
  have v2 := k2.vw g
  generalize deref S d1 = D1 at v1 e
  generalize deref S d2 = D2 at v2 e
  cases v1 with
  | str a =>
    cases v2 with
    | str z =>
      simp only [signF] at e
      cases ha : a.cps.toList with
      | nil => rw [ha] at e; cases e
      | cons c r => cases r with
        | cons _ _ => rw [ha] at e; cases e
        | nil =>
          rw [ha] at e; cases e
          have ea : a = ⟨#[c]⟩ := by
            obtain ⟨ar⟩ := a
            have : ar = #[c] := by apply Array.toList_inj.mp; exact ha
            rw [this]
          subst ea
          exact op_in_sign pins s σ H _ _ v u Q I rx ry ⟨c, z, rfl, rfl, q _ H w (.refl _ _) g (.bl _)⟩
    | _ => cases e
  | _ => cases v2 <;> cases e
/-- [..] * n -/
def eRep (fa fb : EF) : EF := fun ρ S => (fa ρ S).bind fun x S1 => (fb ρ S1).bind fun y S2 => match x, y with
  | .lst ds, .int n => if ds.length * n.toNat < LIM ∧ -(2 ^ 63) ≤ n ∧ n < 2 ^ 63 then .ok (.lst (List.replicate n.toNat ds).flatten) S2 else .stuck
  | _, _ => .stuck
theorem Reps.rep {K : PySem.W.Frag} {w : Wit} {ds : List D} {vs : List V} (h : Reps K w ds vs) : ∀ n : Nat, Reps K w (List.replicate n ds).flatten (List.replicate n vs).flatten
  | 0 => .nil
  | n + 1 => by simp only [List.replicate_succ, List.flatten_cons]; exact h.append (Reps.rep h n)
theorem rep_of {K : PySem.W.Frag} : ∀ σ H Q, rd K .f W O (eRep f g) σ H Q → tOp rRep (rd K .f W O f) (rd K kb W O g) σ H Q := by
  rintro σ H Q ⟨ent, w, ρ, S, r, p⟩
  refine ⟨ent, w, ρ, S, r, p.bind fun d S1 v H1 w1 x1 g1 z1 p1 => ?_⟩
  refine ⟨ent, w1, ρ, S1, r.later x1 g1, p1.bind fun d2 S2 v2 H2 w2 x2 g2 z2 p2 => ?_⟩
  obtain ⟨a, rfl, n, o⟩ := z1
  have o2 := o.ext x2
  cases d with
  | lst ds =>
    cases d2 with
    | int k =>
      dsimp only at p2
      split at p2
      · rename_i hc
        obtain ⟨_, _, vs, hH, rr⟩ := o2
        have e2 : v2 = .int k := by
          rcases (z2.b : KP K .b H1 w2 H2 (.int k) v2) with h | ⟨_, _, h⟩
          · cases h; rfl
          · exact h.2.2.elim
        subst e2
        refine ⟨a, k, vs, rfl, rfl, hH, hc.2.1, hc.2.2, by rw [← rr.length]; exact Nat.le_of_lt (lim_size hc.1), fun p np => ?_⟩
        exact p2 _ _ w2 (Ext.newO w2 np) (g2.newO np) ⟨p, rfl, np, g2.noneF np, g2.nophi np, _, upd_same, rr.rep _⟩
      · exact p2.elim
    | _ => exact p2.elim
  | _ => exact p2.elim
theorem de_rep (ha : DE .f X W O a f) (hb : DE kb X W O b g) : DE .f X W O (.BinOp a .Mult b pos) (eRep f g) := ⟨(pe_op op_rep ha.pe hb.pe).imp rep_of⟩
/-- (..) * n -/
def repTF (x y : D) : Option D := match x, y with
  | .tup ds, .int n => if 2 ≤ n ∧ n ≤ 1000 ∧ ds.length ≤ 1000 ∧ ds ≠ [] then some (.tup (List.replicate n.toNat ds).flatten) else none
  | _, _ => none
theorem op_repTd : OpR X (binaryOp .Mult) (r2 X.K .e repTF) := by
  intro pins s σ H x y v u Q I rx ry ⟨w, S, d1, d2, d, g, k1, k2, e, q⟩
  have v1 := k1.vw g
  have v2 := k2.vw g
  generalize deref S d1 = D1 at v1 e
  generalize deref S d2 = D2 at v2 e
  cases v1 with
  | @tup a vs ds h rr =>
    cases v2 with
    | int k =>
      simp only [repTF] at e
      split at e
      · rename_i hc
        cases e
        have hl := rr.length
        refine op_repT pins s σ H _ _ v u Q I rx ry ⟨a, k, vs, rfl, rfl, SqT.of (g.sub _ _ h), fun z => hc.2.2.2 (List.eq_nil_of_length_eq_zero (by rw [hl, z]; rfl)), hc.1, hc.2.1, by rw [← hl]; exact hc.2.2.1, fun p np => ?_⟩
        exact q _ _ (w.new p (.tup (List.replicate k.toNat vs).flatten)) (Ext.newF g np) (g.new np) (.tup upd_same ((rr.rep _).mono (Le.new (g.noneF np))))
      · cases e
    | _ => cases e
  | _ => cases v2 <;> cases e
/-- what counts as true -/
def truB : D → Option Bool
  | .non => some false
  | .bl b => some b
  | .int i => some (decide (i ≠ 0))
  | .str z => if z.length < LIM then some ((z.length : Int) != 0) else none
  | .lst ds => some (!ds.isEmpty)
  | .tup ds => some (!ds.isEmpty)
  | .ctp ds => some (!ds.isEmpty)
  | .dct ds => some (!ds.isEmpty)
  | _ => none
/-- d.get(k, x) -/
def eGet2 (fd fk fx : EF) : EF := fun ρ S => (fd ρ S).bind fun d S1 => match deref S1 d with
  | .dct kvs => (fk ρ S1).bind fun k S2 => (fx ρ S2).bind fun x S3 => (match lookF (deref S3 d) (deref S3 k) with
    | some o => .ok (o.getD x) S3
    | none => .stuck)
  | .dtt kvs => (fk ρ S1).bind fun k S2 => (fx ρ S2).bind fun x S3 => (match lookF (deref S3 d) (deref S3 k) with
    | some o => .ok (o.getD x) S3
    | none => .stuck)
  | _ => .stuck
theorem get2_of {K : PySem.W.Frag} {fx : EF} {fd fk : EF} : ∀ σ H Q, rd K .e W O (eGet2 fd fk fx) σ H Q → tDGet2 (rd K ka W O fd) (rd K kb W O fk) (rd K .e W O fx) σ H Q := by
  rintro σ H Q ⟨ent, w, ρ, S, r, p⟩
  refine ⟨ent, w, ρ, S, r, p.bind fun d S1 v H1 w1 x1 g1 z1 p1 => ?_⟩
  have v1 := (z1.ext (H1 := H1) (.refl _ _)).vw g1
  have r1 := r.later x1 g1
  have fin : ∀ a, v = .ref a → Post K .e w1 H1 W σ ((fk ρ S1).bind fun k S2 => (fx ρ S2).bind fun x S3 => (match lookF (deref S3 d) (deref S3 k) with
    | some o => .ok (o.getD x) S3
    | none => .stuck)) Q → rd K kb W O fk σ H1 fun y H2 => rd K .e W O fx σ H2 fun z H3 => ∃ o, DGet H3 a y o ∧ Q (o.getD z) H3 := by
    rintro a rfl p1
    refine ⟨ent, w1, ρ, S1, r1, p1.bind fun k S2 y H2 w2 x2 g2 z2 p2 => ?_⟩
    refine ⟨ent, w2, ρ, S2, r1.later x2 g2, p2.bind fun dx S3 zz H3 w3 x3 g3 z3 p3 => ?_⟩
    have v3 := (z1.ext (H1 := H3) (x2.trans x3)).vw g3
    have y3 := (z2.ext (H1 := H3) x3).vw g3
    cases e : lookF (deref S3 d) (deref S3 k) with
    | none => rw [e] at p3; exact p3.elim
    | some o =>
      rw [e] at p3
      obtain ⟨a', o', ea, dg, ro⟩ := look_of g3.sub v3 y3 e
      cases ea
      refine ⟨o', dg, ?_⟩
      cases o with
      | none => cases o' with
        | none => exact p3 zz H3 w3 (.refl _ _) g3 z3
        | some _ => exact ro.elim
      | some d' => cases o' with
        | none => exact ro.elim
        | some v' => exact p3 v' H3 w3 (.refl _ _) g3 ro
  generalize hD : deref S1 d = D1 at v1 p1
  cases v1 with
  | dK h rr => exact ⟨_, rfl, .inl ⟨_, .inl h⟩, fin _ rfl p1⟩
  | dT h rr => exact ⟨_, rfl, .inr ⟨_, .inl h⟩, fin _ rfl p1⟩
  | _ => exact p1.elim
theorem de_get2 {o ek ex : Expr} {apos cpos : Pos} {fd fk fx : EF} (hu : X.A.units + 64 < cLine) (ho : DE ka X W O o fd) (hk : DE kb X W O ek fk) (hx : DE .e X W O ex fx) (m : M2 X o "get" apos ek ex cpos := by exact ⟨rfl, rfl, rfl, rfl⟩) :
    DE .e X W O (.Call (.Attribute o "get" apos) [ek, ex] [] cpos) (eGet2 fd fk fx) := ⟨(pe_dget2 (by omega) ho.pe hk.pe hx.pe m).imp get2_of⟩
/-- {} -/
def eNewK : EF := fun _ S => .ok (.dct []) S
def eNewT : EF := fun _ S => .ok (.dtt []) S
theorem de_newK : DE .f X W O (.Dict [] [] pos) eNewK := ⟨pe_dnewK.imp fun σ H Q ⟨ent, w, ρ, S, r, p⟩ q nq => p _ _ w (Ext.newO w nq) (r.gd.newO nq) ⟨q, rfl, nq, r.gd.noneF nq, r.gd.nophi nq, _, upd_same, .nil⟩⟩
theorem de_newT : DE .f X W O (.Dict [] [] pos) eNewT := ⟨pe_dnewT.imp fun σ H Q ⟨ent, w, ρ, S, r, p⟩ q nq => p _ _ w (Ext.newO w nq) (r.gd.newO nq) ⟨q, rfl, nq, r.gd.noneF nq, r.gd.nophi nq, _, upd_same, .nil⟩⟩
end
section
variable {X : Cx} {W : WZ} {O : List Nat} {elt tg iter tg1 iter1 : Expr} {ifs ifs1 : List Expr} {scope : Scope} {own : List (Str × Nat)} {vs1 : List Nat} {pos : Pos} {fi fi1 : IF} {g g1 : GF} {t t1 : TG} {fc fc1 fe : EF}
theorem de_lc2 (hN : X.N.Nodup) (ok : BlkOk X.N X.env.scope scope own) (hv : ∀ i, i ∈ vs1 → i ∈ own.map (·.2)) (hi : DI X W O tg iter fi)
    (hgo : GOk X.K O g t) (hg : ∀ (s : Shared) (H : Hp) (C : Addr) (cl : List (Str × Addr)) (fp : List Addr), PG (X.blk s H scope (compEnvC scope cl C X.env) fp) tg t) (ho : TOwn t (own.map (·.2)))
    (ht : ∀ (s : Shared) (H : Hp) (C : Addr) (cl : List (Str × Addr)) (fp : List Addr), DCs (X.blk s H scope (compEnvC scope cl C X.env) fp) W O ifs fc)
    (hi1 : ∀ (s : Shared) (H : Hp) (C : Addr) (cl : List (Str × Addr)) (fp : List Addr), DI (X.blk s H scope (compEnvC scope cl C X.env) fp) W.no O tg1 iter1 fi1)
    (hgo1 : GOk X.K O g1 t1) (hg1 : ∀ (s : Shared) (H : Hp) (C : Addr) (cl : List (Str × Addr)) (fp : List Addr), PG (X.blk s H scope (compEnvC scope cl C X.env) fp) tg1 t1) (ho1 : TOwn t1 vs1)
    (ht1 : ∀ (s : Shared) (H : Hp) (C : Addr) (cl : List (Str × Addr)) (fp : List Addr), DCs (X.blk s H scope (compEnvC scope cl C X.env) fp) W O ifs1 fc1)
    (he : ∀ (s : Shared) (H : Hp) (C : Addr) (cl : List (Str × Addr)) (fp : List Addr), DE .e (X.blk s H scope (compEnvC scope cl C X.env) fp) W.no O elt fe)
    (hO : ∀ i, i ∈ own.map (·.2) → i ∉ O := by decide) (hO1 : ∀ i, i ∈ vs1 → i ∉ O := by decide) (hc : X.calm = true := by rfl) (hs : ∀ x, foldedSetIterable iter X.env x = pure x := by intro _; rfl) (hs1 : ∀ env x, foldedSetIterable iter1 env x = pure x := by intro _ _; rfl) :
    DE .f X W O (.ListComp elt [⟨tg, iter, ifs, 0⟩, ⟨tg1, iter1, ifs1, 0⟩] scope pos) (eLc2 (own.map (·.2)) vs1 fi g fc fi1 g1 fc1 fe) :=
  ⟨(pe_lc2 (pos := pos) (tt := rdT X.K W.no O fc) (tt1 := rdT X.K W.no O fc1) (te := rd X.K .e W.no O fe) (wi1 := rdI X.K W.no O fi1) hc hN hi.pi ok hv hg (fun s H C cl fp => (ht s H C cl fp).pts) (fun s H C cl fp => (hi1 s H C cl fp).pi) hg1 (fun s H C cl fp => (ht1 s H C cl fp).pts) (fun s H C cl fp => (he s H C cl fp).pe) hs hs1).imp (lc2_of hgo ho hgo1 ho1 hO hO1)⟩
end
/-! ### truth -/
def eTru (fa : EF) : EF := fun ρ S => (fa ρ S).bind fun x S1 => match truB (deref S1 x) with
  | some b => .ok (.bl b) S1
  | none => .stuck
section
variable {X : Cx} {W : WZ} {O : List Nat} {a : Expr} {fa : EF} {k : Kd}
theorem tru_of {K : PySem.W.Frag} {w : Wit} {H : Hp} {S : Sto} (g : Gd K w H S) {d : D} {v : V} {b : Bool} (h : Vw K w H d v) (e : truB d = some b) : TruV K v H b := by
  cases h with
  | non => cases e; rfl
  | bl c => cases e; rfl
  | int i =>
    simp only [truB, Option.some.injEq] at e
    subst e
    show decide (i ≠ 0) = (i != 0)
    by_cases q : i = 0 <;> simp [q]
  | str z =>
    simp only [truB] at e
    split at e
    · rename_i hl
      cases e
      exact ⟨Nat.le_of_lt (lim_size hl), rfl⟩
    · cases e
  | tup h r =>
    cases e
    refine .inr (.inl ⟨_, SqT.of (g.sub _ _ h), ?_⟩)
    cases r <;> rfl
  | ctp h r =>
    cases e
    refine .inr (.inl ⟨_, SqT.monoF none_le h, ?_⟩)
    cases r <;> rfl
  | lst h r =>
    cases e
    refine .inl ⟨_, h, ?_⟩
    cases r <;> rfl
  | dK h r =>
    cases e
    refine .inr (.inr ⟨_, h, ?_⟩)
    cases r <;> rfl
  | _ => cases e
theorem etru_of {K : PySem.W.Frag} : ∀ σ H Q, rdT K W O (eTru fa) σ H Q → (rd K k W O fa) σ H fun x H' => ∃ b, TruV K x H' b ∧ Q b H' := by
  rintro σ H Q ⟨ent, w, ρ, S, r, p⟩
  refine ⟨ent, w, ρ, S, r, ?_⟩
  unfold eTru at p
  cases e1 : fa ρ S with
  | stuck => rw [e1] at p; exact p
  | exn x S1 => rw [e1] at p; exact p
  | ok d S1 =>
    rw [e1] at p
    intro v H1 w1 x1 g1 z1
    have v1 := (z1.ext (H1 := H1) (.refl _ _)).vw g1
    simp only [Res.bind_ok] at p
    cases e2 : truB (deref S1 d) with
    | none => rw [e2] at p; exact p.elim
    | some b =>
      rw [e2] at p
      obtain ⟨b', eb, p⟩ := p
      cases eb
      exact ⟨b, tru_of g1 v1 e2, p H1 w1 x1 g1⟩
/-- a value as a test -/
theorem dt_tru (ha : DE k X W O a fa) (he : ∀ whole, isTrue a X.env whole = (do let v ← whole; standAt a.pos; holding [v] (truthy v)) := by intro _; rfl) : DT X W O a (eTru fa) := ⟨(pt_truth ha.pe he).imp etru_of⟩
end
theorem hu_64 {k : Nat} {A : Around} (r : Room k A) : A.units + 64 < cLine := r.units
theorem hu_65 {k : Nat} {A : Around} (r : Room k A) : A.units + 65 < cLine := by have := r.un; omega
def anyB (t : String) : List String → Option Bool
  | [] => some false
  | c :: r => match kitB t c with
    | some true => some true
    | some false => anyB t r
    | none => none
theorem anyB_kit {K : PySem.W.Frag} {t : String} : ∀ {ns : List String} {b : Bool}, anyB t ns = some b → PySem.W.kitAny K (.type t) (ns.map .type) = some b
  | [], _, h => by cases h; rfl
  | c :: r, b, h => by
    unfold anyB at h
    rw [List.map_cons]
    unfold PySem.W.kitAny
    cases e : kitB t c with
    | none => rw [e] at h; cases h
    | some x =>
      rw [e] at h
      rw [kit_ty e]
      cases x with
      | true => exact h
      | false => exact anyB_kit h
theorem isK_ty {K : PySem.W.Frag} {ns : List String} {tb : String → Bool} {to : Str → Option Bool} (h : ∀ t ∈ baseTys, anyB t ns = some (tb t)) (h2 : ∀ c b, to c = some b → False) : IsK K (ns.map .type) tb to :=
  ⟨fun t ht => anyB_kit (h t ht), fun c b e => (h2 c b e).elim⟩
end DL

set_option maxHeartbeats 1000000
/-! several except clauses, each with or without a name -/
namespace DL
open PySem PySem.Spec PyProof.Rows L2

abbrev Hd := Value × Option Nat × (Addr → Value → Option Addr → TS)
def gone (i : Nat) (D : Ends) : Ends := { nx := fun σ H => D.nx (σ.set i none) H, rt := D.rt, bk := fun σ H => D.bk (σ.set i none) H, ct := fun σ H => D.ct (σ.set i none) H }
def wClauses (K : PySem.W.Frag) (Wout : WX) (D : Ends) : List Hd → WX
  | [] => Wout
  | (c, nm, ts) :: r => fun cls d σ H => ∃ b, PySem.W.exmOne K cls c = some b ∧ (b = true → ∀ a, H a = none → match nm with
      | some i => ts a cls d (gone i D) (σ.set i (some (.ref a))) H
      | none => ts a cls d D σ H) ∧ (b = false → wClauses K Wout D r cls d σ H)
/-- clauses that fit -/
inductive Cls' (X : Cx) : List ExceptHandler → List Hd → Prop
  | nil : Cls' X [] []
  | bare {x : Str} {c : Value} {ts : Addr → Value → Option Addr → TS} {b₀ : Stmt} {suite : List Stmt} {np pos' : Pos} {hds : List ExceptHandler} {l : List Hd} (hc : Names X x c)
      (hsu : ∀ (a : Addr) (oe : Obj) (cls : Value) (d : Option Addr) (pn : List (Addr × Obj)), Zc cls d oe → (∃ vs, oe.data = .fields vs) → PSs (X.suite a ((a, oe) :: pn)) (b₀ :: suite) (ts a cls d)) (r : Cls' X hds l) :
      Cls' X (.ExceptHandler (some (.Name x np)) none (b₀ :: suite) pos' :: hds) ((c, none, ts) :: l)
  | named {x n : Str} {c : Value} {i : Nat} {ts : Addr → Value → Option Addr → TS} {b₀ : Stmt} {suite : List Stmt} {np pos' : Pos} {hds : List ExceptHandler} {l : List Hd} (hc : Names X x c) (hi : X.N[i]? = some n) (hln : X.env.kindOf n = some .local)
      (hsu : ∀ (a : Addr) (oe : Obj) (cls : Value) (d : Option Addr) (pn : List (Addr × Obj)), Zc cls d oe → (∃ vs, oe.data = .fields vs) → PSs (X.suite a ((a, oe) :: pn)) (b₀ :: suite) (ts a cls d)) (r : Cls' X hds l) :
      Cls' X (.ExceptHandler (some (.Name x np)) (some n) (b₀ :: suite) pos' :: hds) ((c, some i, ts) :: l)
section
variable {X : Cx} {body : List Stmt} {h₀ : ExceptHandler} {hds : List ExceptHandler} {l : List Hd} {pos : Pos} {tb : WX → TS} {Wout : WX}
theorem ps_tryC (hN : X.N.Nodup) (hs : X.stack = X.env :: X.outer) (hf : X.env.frame = some X.env.locals) (tk : Takes X Wout)
    (hb : ∀ (W : WX) (pn : List (Addr × Obj)) (xe : Value → Shared → Prop), Takes (X.tr pn xe) W → PassesOwn (model X.prog X.w) X.A X.env xe → PSs (X.tr pn xe) body (tb W))
    (hh : Cls' X (h₀ :: hds) l) : PS X (.Try body (h₀ :: hds) [] [] pos) (fun D σ H => tb (wClauses X.K Wout D l) D σ H) := by
  refine ⟨fun pins s σ H D I h => ?_⟩
  have ok := I.ok
  have hfr : X.A.frames = some (X.env :: X.outer) := by rw [ok.frames, hs]
  refine wpAny_Try_except ?_
  refine wpAny_mono ((hb (wClauses X.K Wout D l) (X.pn ++ pins) (fun e s₁ => wpAny (model X.prog X.w) X.A (noteFrame e X.env) (fun _ s₂ => wpAny (model X.prog X.w) X.A (setFlight e none) (fun _ s₃ => wpAny (model X.prog X.w) X.A (handleBy e X.env (h₀ :: hds)) (SP X pins D) X.xe s₃) X.xe s₂) X.xe s₁) (fun u s' xx => ?_) PassesOwn.looking).run [] s σ H D (I.toTry _) h) (fun f s1 hsp => ?_) (fun e s1 he => he)
  · obtain ⟨a, B, sI, pins', σ', H', cls, d, rfl, J', nb, up, sky, na, os, ag, w⟩ := xx
    have J : L2.Inv X pins σ' H' sI := J'.ofTry ok
    have sky' : Sky B (X.env :: X.outer) a (Zc cls d) X.env.locals s'.heap := by rw [← hs]; exact sky
    show wpAny (model X.prog X.w) X.A (noteFrame (.ref a) X.env) _ _ _
    refine Sky.land Zc.steady hfr hf sky' fun h3 fl3 up3 => ?_
    have J3 : L2.Inv X pins σ' H' { s' with heap := h3 } := J.landed nb fl3.1 (up.trans up3) os ag
    obtain ⟨oe3, vs3, he3, hz3, hd3⟩ := fl3.there
    have nfr : a ∉ frs (X.env :: X.outer) := fun hm => by
      obtain ⟨_, o', e', hnf⟩ := fl3.2.2.1.mem hm
      rw [he3] at e'; cases e'
      exact hnf _ hd3
    have nL : a ≠ X.env.locals := fun z => nfr (List.mem_filterMap.mpr ⟨X.env, List.mem_cons_self, by rw [hf, z]⟩)
    have nF : a ∉ X.fs := fun hm => by
      obtain ⟨e, he, q⟩ := List.mem_filterMap.mp hm
      exact nfr (List.mem_filterMap.mpr ⟨e, List.mem_cons_of_mem _ he, q⟩)
    have S3 := J3.suite he3 hd3 na nL nF
    have LT : PySem.W.Looks (model X.prog X.w) h3 (typeOf (.ref a)) cls := fun A Q E s k q => wpAny_typeOf_ref (k _ _ he3) (by rw [hz3.1]; exact q)
    have names : ∀ {x : Str} {c : Value} {np : Pos} {Q : Value → Shared → Prop} {E : Value → Shared → Prop}, Names X x c → Q c { s' with heap := h3 } → wpAny (model X.prog X.w) (X.A.mark (some (.ref a))) (eval (.Name x np) X.env) Q E { s' with heap := h3 } := fun {x c np Q E} hc q => by
      obtain ⟨hg, hdbg, hm | ⟨hm, hv, hnn⟩⟩ := hc
      · exact ld_glob (X := X.suite a ((a, oe3) :: (X.pn ++ pins))) S3 hg hm q hdbg
      · exact ld_blt (X := X.suite a ((a, oe3) :: (X.pn ++ pins))) S3 hg hm hv q hnn hdbg
    have go : ∀ {hds' : List ExceptHandler} {l' : List Hd}, Cls' X hds' l' → wClauses X.K Wout D l' cls d σ' H' → wpAny (model X.prog X.w) X.A (handleBy (.ref a) X.env hds') (SP X pins D) X.xe { s' with heap := h3 } := by
      intro hds' l' hk
      induction hk with
      | nil =>
        intro w
        refine wpAny_handleBy_nil ?_
        obtain ⟨k1, k2, k3, oe, vs, T, oT, ts', he, hz, hd, h1, hr⟩ := id fl3
        unfold PySem.passOn
        refine wpAny_bind (wpAny_field he hd h1 ?_)
        rw [if_neg (show ¬ ((Value.ref T == Value.none) = true) from by simp)]
        have fin : wpAny (model X.prog X.w) X.A (setFlight (.ref a) X.env.frame) (fun _ s4 => wpAny (model X.prog X.w) X.A (throw (.ref a) : Sem Flow) (SP X pins D) X.xe s4) X.xe { s' with heap := h3 } := by
          rw [hf]
          exact HandSPX.setFlight_upZ fl3 fun h4 hh4 up4 => wpAny_throw (tk _ _ ⟨a, B, sI, pins, σ', H', cls, d, rfl, J, nb, (up.trans up3).trans up4, .inr (.inr (by rw [hs]; exact hh4)), na, os, ag, w⟩)
        first
          | exact wpAny_bind (wpAny_pure (wpAny_bind fin))
          | exact wpAny_bind fin
      | @bare x c ts b₀ suite np pos' hds2 l2 hc hsu r ih =>
        intro w
        obtain ⟨b, hb1, hyes, hno⟩ := w
        refine wpAny_handleBy_cons (codeAny_handlers_test (names hc ((PySem.W.exm_one (M := model X.prog X.w) (J3.kIn) LT hb1).here ?_))) (by intro q; cases q)
        cases b with
        | false => exact ih (hno rfl)
        | true =>
          refine codeAny_handlers_suite (HandSPX.lands_againZ fl3 fun h4 fl4 up4 => ?_)
          have J4 : L2.Inv X pins σ' H' { s' with heap := h4 } := J.landed nb fl4.1 ((up.trans up3).trans up4) os ag
          obtain ⟨oe4, vs4, he4, hz4, hd4⟩ := fl4.there
          have S4 := J4.suite he4 hd4 na nL nF
          refine wpAny_mono ((hsu a oe4 cls d (X.pn ++ pins) hz4 ⟨_, hd4⟩).run [] _ _ H' _ S4 (hyes rfl a na)) (fun f s6 hsp => ?_) (fun _ _ z => False.elim z)
          cases f with
          | ret u =>
            obtain ⟨v6, σ6, H6, S6, r6, q6⟩ := hsp
            exact ⟨_, _, _, S6.unsuite ok, r6, q6⟩
          | next => obtain ⟨σ6, H6, S6, q6⟩ := hsp; exact ⟨_, _, S6.unsuite ok, q6⟩
          | brk => obtain ⟨σ6, H6, S6, q6⟩ := hsp; exact ⟨_, _, S6.unsuite ok, q6⟩
          | cont => obtain ⟨σ6, H6, S6, q6⟩ := hsp; exact ⟨_, _, S6.unsuite ok, q6⟩
      | @named x n c i ts b₀ suite np pos' hds2 l2 hc hi hln hsu r ih =>
        intro w
        obtain ⟨b, hb1, hyes, hno⟩ := w
        refine wpAny_handleBy_cons (codeAny_handlers_test (names hc ((PySem.W.exm_one (M := model X.prog X.w) (J3.kIn) LT hb1).here ?_))) (by intro q; cases q)
        cases b with
        | false => exact ih (hno rfl)
        | true =>
          refine codeAny_handlers_suite_as (HandSPX.lands_againZ fl3 fun h4 fl4 up4 => ?_)
          have J4 : L2.Inv X pins σ' H' { s' with heap := h4 } := J.landed nb fl4.1 ((up.trans up3).trans up4) os ag
          obtain ⟨oe4, vs4, he4, hz4, hd4⟩ := fl4.there
          have S4 := J4.suite he4 hd4 na nL nF
          refine store_ok (X := X.suite a ((a, oe4) :: (X.pn ++ pins))) (v := .ref a) S4 hN hi (.inl hln) rfl (fun s5 S5 => ?_) (.inr hln)
          refine wpAny_mono ((hsu a oe4 cls d (X.pn ++ pins) hz4 ⟨_, hd4⟩).run [] s5 _ H' _ S5 (hyes rfl a na)) (fun f s6 hsp => ?_) (fun _ _ z => False.elim z)
          cases f with
          | ret u =>
            obtain ⟨v6, σ6, H6, S6, r6, q6⟩ := hsp
            exact gone_ok (S6.unsuite ok) hN hi hln fun s7 J7 => ⟨_, _, _, J7, r6, q6⟩
          | next => obtain ⟨σ6, H6, S6, q6⟩ := hsp; exact gone_ok (S6.unsuite ok) hN hi hln fun s7 J7 => ⟨_, _, J7, q6⟩
          | brk => obtain ⟨σ6, H6, S6, q6⟩ := hsp; exact gone_ok (S6.unsuite ok) hN hi hln fun s7 J7 => ⟨_, _, J7, q6⟩
          | cont => obtain ⟨σ6, H6, S6, q6⟩ := hsp; exact gone_ok (S6.unsuite ok) hN hi hln fun s7 J7 => ⟨_, _, J7, q6⟩
    exact go hh w
  · cases f with
    | ret u =>
      obtain ⟨v, σ', H', J', r, q⟩ := hsp
      exact ⟨v, σ', H', J'.ofTry ok, r, q⟩
    | next => obtain ⟨σ', H', J', q⟩ := hsp; exact wpAny_execs_nil ⟨σ', H', J'.ofTry ok, q⟩
    | brk => obtain ⟨σ', H', J', q⟩ := hsp; exact ⟨σ', H', J'.ofTry ok, q⟩
    | cont => obtain ⟨σ', H', J', q⟩ := hsp; exact ⟨σ', H', J'.ofTry ok, q⟩
end
end DL

set_option maxHeartbeats 1000000
/-! raise, try on plain data -/
namespace DL
open PySem PySem.Spec PyProof.Rows L2

/-! ### an except suite is entered, left -/
section
variable {K : PySem.W.Frag} {ent : Ent none} {O : List Nat} {w : Wit} {H : Hp} {σ : L2.St} {ρ : DEnv} {S : Sto}
theorem R.enter (r : R K ent [] w H σ ρ S) {i : Nat} {a : Addr} {cls : Value} {dx : Option Addr} {x : D} (hx : RepX K w H x cls dx) :
    R K (⟨ent.w, ent.H, ent.k⟩ : Ent (some ⟨i, a, cls, dx, x⟩)) [i] w H (σ.set i (some (.ref a))) (ρ.set i none) S where
  gd := r.gd
  ext := r.ext
  kn := r.kn
  val := fun j d e n => by
    have q : i ≠ j := fun z => n (by simp [z])
    rw [List.getElem?_set_ne q] at e
    obtain ⟨v, h1, h2⟩ := r.val j d e (by simp)
    exact ⟨v, by rw [List.getElem?_set_ne q]; exact h1, h2⟩
  own := fun j d e n => by
    have q : i = j := (by simpa using n : j = i).symm
    subst q
    have hl : i < ρ.length := by have := (List.getElem?_eq_some_iff.mp e).1; simpa using this
    rw [List.getElem?_set_self hl] at e; cases e
  dis := fun j k b hj hk _ _ _ _ => by
    have q1 : j = i := by simpa using hj
    have q2 : k = i := by simpa using hk
    rw [q1, q2]
  len := by simpa using r.len
  exc := fun z hz hi hn => by
    cases hz
    have hl : i < ρ.length := by have := (List.getElem?_eq_some_iff.mp hn).1; simpa using this
    exact ⟨List.getElem?_set_self (by rw [← r.len]; exact hl), hx⟩
theorem R.enter0 (r : R K ent [] w H σ ρ S) (Z : Option XC) (hZ : ∀ z, Z = some z → z.i ∉ ([] : List Nat)) : R K (⟨ent.w, ent.H, ent.k⟩ : Ent Z) [] w H σ ρ S :=
  ⟨r.gd, r.ext, r.kn, r.val, r.own, r.dis, r.len, fun z hz hi => absurd hi (hZ z hz)⟩
theorem R.leave {Z : Option XC} {e' : Ent Z} (r : R K e' O w H σ ρ S) (h1 : e'.w = ent.w) (h2 : e'.H = ent.H) (h3 : e'.k = ent.k) : R K ent O w H σ ρ S :=
  ⟨r.gd, by rw [← h1, ← h2]; exact r.ext, by rw [← h3]; exact r.kn, r.val, by rw [← h2]; exact r.own, r.dis, r.len, fun z hz => by cases hz⟩
end
/-- one clause: for which classes, the name's slot, the suite -/
structure HdF where
  to : Str → Option Bool
  nm : Option Nat
  g : D → SF
def goneS (i : Nat) (r : SRes) : SRes := match r with
  | .nx ρ S => .nx (ρ.set i none) S
  | .bk ρ S => .bk (ρ.set i none) S
  | .ct ρ S => .ct (ρ.set i none) S
  | r => r
def handD : List HdF → D → DEnv → Sto → SRes
  | [], x, ρ, S => .exn x ρ S
  | h :: r, x, ρ, S => match x with
    | .ins c _ => (match h.to c with
      | some true => (match h.nm with
        | some i => (match h.g x (ρ.set i none) S with
          | .exn _ _ _ => .stuck
          | r => goneS i r)
        | none => (match h.g x ρ S with
          | .exn _ _ _ => .stuck
          | r => r))
      | some false => handD r x ρ S
      | none => .stuck)
    | _ => .stuck
def sTry (fb : SF) (hs : List HdF) : SF := fun ρ S => match fb ρ S with
  | .exn x ρ1 S1 => handD hs x ρ1 S1
  | r => r
def Wx (i : Nat) (a : Addr) (cls : Value) (dx : Option Addr) (x : D) : WZ := ⟨fun _ _ _ _ => False, some ⟨i, a, cls, dx, x⟩⟩
def W0 : WZ := ⟨fun _ _ _ _ => False, none⟩
/-- the reading of a suite -/
def tSuN (K : PySem.W.Frag) (L : Lp) (O' : List Nat) (i : Nat) (g : D → SF) : Addr → Value → Option Addr → TS := fun a cls dx D σ H => ∃ x, rdS K L (Wx i a cls dx x) [i] O' (g x) D σ H
def tSuB (K : PySem.W.Frag) (L : Lp) (O' : List Nat) (g : D → SF) : Addr → Value → Option Addr → TS := fun a cls dx D σ H => ∃ x, rdS K L W0 [] O' (g x) D σ H
theorem _root_.L2.PSs.ex {X : Cx} {st : List Stmt} {α : Type} {t : α → TS} (h : ∀ x, PSs X st (t x)) : PSs X st (fun D σ H => ∃ x, t x D σ H) := ⟨fun pins s σ H D I ⟨x, q⟩ => (h x).run pins s σ H D I q⟩
/-- clauses that fit, on plain data -/
inductive HdsD (X : Cx) (L : Lp) (O' : List Nat) : List ExceptHandler → List Hd → List HdF → Prop
  | nil : HdsD X L O' [] [] []
  | bare {x : Str} {c : Value} {b₀ : Stmt} {suite : List Stmt} {np pos' : Pos} {hds : List ExceptHandler} {l : List Hd} {fs : List HdF} {to : Str → Option Bool} {g : D → SF} (hc : Names X x c) (ht : ∀ d b, to d = some b → PySem.W.exmOne X.K (.ref (He.ga X.K d)) c = some b)
      (hsu : ∀ (a : Addr) (oe : Obj) (cls : Value) (d : Option Addr) (pn : List (Addr × Obj)) (x : D), Zc cls d oe → (∃ vs, oe.data = .fields vs) → DSs (X.suite a ((a, oe) :: pn)) W0 L [] (b₀ :: suite) O' (g x)) (r : HdsD X L O' hds l fs) :
      HdsD X L O' (.ExceptHandler (some (.Name x np)) none (b₀ :: suite) pos' :: hds) ((c, none, tSuB X.K L O' g) :: l) (⟨to, none, g⟩ :: fs)
  | named {x n : Str} {c : Value} {i : Nat} {b₀ : Stmt} {suite : List Stmt} {np pos' : Pos} {hds : List ExceptHandler} {l : List Hd} {fs : List HdF} {to : Str → Option Bool} {g : D → SF} (hc : Names X x c) (hi : X.N[i]? = some n) (hln : X.env.kindOf n = some .local) (hiO : i ∉ O' ∧ i ∉ L.ct ∧ i ∉ L.bk)
      (ht : ∀ d b, to d = some b → PySem.W.exmOne X.K (.ref (He.ga X.K d)) c = some b)
      (hsu : ∀ (a : Addr) (oe : Obj) (cls : Value) (d : Option Addr) (pn : List (Addr × Obj)) (x : D), Zc cls d oe → (∃ vs, oe.data = .fields vs) → DSs (X.suite a ((a, oe) :: pn)) (Wx i a cls d x) L [i] (b₀ :: suite) O' (g x)) (r : HdsD X L O' hds l fs) :
      HdsD X L O' (.ExceptHandler (some (.Name x np)) (some n) (b₀ :: suite) pos' :: hds) ((c, some i, tSuN X.K L O' i g) :: l) (⟨to, some i, g⟩ :: fs)
theorem HdsD.cls {X : Cx} {L : Lp} {O' : List Nat} {hs : List ExceptHandler} {l : List Hd} {fs : List HdF} (h : HdsD X L O' hs l fs) : Cls' X hs l := by
  induction h with
  | nil => exact .nil
  | bare hc ht hsu r ih => exact .bare hc (fun a oe cls d pn hz hf => PSs.ex fun x => (hsu a oe cls d pn x hz hf).ps) ih
  | named hc hi hln hiO ht hsu r ih => exact .named hc hi hln (fun a oe cls d pn hz hf => PSs.ex fun x => (hsu a oe cls d pn x hz hf).ps) ih
theorem HdsD.wish {X : Cx} {L : Lp} {W : WZ} {O' : List Nat} {hs : List ExceptHandler} {l : List Hd} {fs : List HdF} (h : HdsD X L O' hs l fs) {ent : Ent none} {En : Ends} {x : D} {ρ : DEnv} {S : Sto} (p : SPost X.K ent L W O' (handD fs x ρ S) En)
    {w : Wit} {H : Hp} {σ : L2.St} {cls : Value} {dx : Option Addr} (r : R X.K ent [] w H σ ρ S) (hx : RepX X.K w H x cls dx) : wClauses X.K W.wx En l cls dx σ H := by
  induction h with
  | nil => exact p w H σ cls dx r hx
  | @bare x' c b₀ suite np pos' hds l fs to g hc ht hsu rr ih =>
    obtain ⟨cn, fls, ex, ec, _⟩ := id hx
    subst ex ec
    unfold handD at p
    dsimp only at p
    cases e : to cn with
    | none => rw [e] at p; exact p.elim
    | some b =>
      rw [e] at p
      refine ⟨b, ht cn b e, fun hb a na => ?_, fun hb => ?_⟩
      · subst hb
        dsimp only at p
        refine ⟨.ins cn fls, (⟨ent.w, ent.H, ent.k⟩ : Ent none), w, ρ, S, r, ?_⟩
        cases e2 : g (.ins cn fls) ρ S with
        | nx ρ1 S1 => rw [e2] at p; exact fun w1 H1 σ1 r1 => p w1 H1 σ1 (r1.leave rfl rfl rfl)
        | rt d S1 => rw [e2] at p; exact p
        | bk ρ1 S1 => rw [e2] at p; exact fun w1 H1 σ1 r1 => p w1 H1 σ1 (r1.leave rfl rfl rfl)
        | ct ρ1 S1 => rw [e2] at p; exact fun w1 H1 σ1 r1 => p w1 H1 σ1 (r1.leave rfl rfl rfl)
        | exn y ρ1 S1 => rw [e2] at p; exact p.elim
        | stuck => rw [e2] at p; exact p
      · subst hb
        exact ih p
  | @named x' n c i b₀ suite np pos' hds l fs to g hc hi hln hiO ht hsu rr ih =>
    obtain ⟨cn, fls, ex, ec, _⟩ := id hx
    subst ex ec
    unfold handD at p
    dsimp only at p
    cases e : to cn with
    | none => rw [e] at p; exact p.elim
    | some b =>
      rw [e] at p
      refine ⟨b, ht cn b e, fun hb a na => ?_, fun hb => ?_⟩
      · subst hb
        dsimp only at p
        refine ⟨.ins cn fls, (⟨ent.w, ent.H, ent.k⟩ : Ent (some ⟨i, a, _, dx, .ins cn fls⟩)), w, ρ.set i none, S, r.enter hx, ?_⟩
        cases e2 : g (.ins cn fls) (ρ.set i none) S with
        | nx ρ1 S1 => rw [e2] at p; exact fun w1 H1 σ1 r1 => p w1 H1 _ (R.wipe1 (r1.leave (ent := ent) rfl rfl rfl) i hiO.1)
        | rt d S1 => rw [e2] at p; exact p
        | bk ρ1 S1 => rw [e2] at p; exact fun w1 H1 σ1 r1 => p w1 H1 _ (R.wipe1 (r1.leave (ent := ent) rfl rfl rfl) i hiO.2.2)
        | ct ρ1 S1 => rw [e2] at p; exact fun w1 H1 σ1 r1 => p w1 H1 _ (R.wipe1 (r1.leave (ent := ent) rfl rfl rfl) i hiO.2.1)
        | exn y ρ1 S1 => rw [e2] at p; exact p.elim
        | stuck => rw [e2] at p; exact p
      · subst hb
        exact ih p
theorem ds_try {X : Cx} {W : WZ} {L : Lp} {O O' : List Nat} {body : List Stmt} {h₀ : ExceptHandler} {hds : List ExceptHandler} {l : List Hd} {fs : List HdF} {fb : SF} {pos : Pos} (hW : W.xc = none := by rfl) (hN : X.N.Nodup) (hs : X.stack = X.env :: X.outer := by rfl) (hf : X.env.frame = some X.env.locals := by rfl) (tk : Takes X W.wx)
    (hb : ∀ (W' : WX) (pn : List (Addr × Obj)) (xe : Value → Shared → Prop), Takes (X.tr pn xe) W' → PassesOwn (model X.prog X.w) X.A X.env xe → DSs (X.tr pn xe) ⟨W', none⟩ L O body O' fb)
    (hh : HdsD X L O' (h₀ :: hds) l fs) : DS X W L O (.Try body (h₀ :: hds) [] [] pos) O' (sTry fb fs) := by
  obtain ⟨Wx', xc⟩ := W
  cases hW
  refine ⟨(ps_tryC (tb := fun W' => rdS X.K L ⟨W', none⟩ O O' fb) hN hs hf tk (fun W' pn xe t ps => (hb W' pn xe t ps).ps) hh.cls).imp ?_⟩
  rintro En σ H ⟨ent, w, ρ, S, r, p⟩
  refine ⟨ent, w, ρ, S, r, ?_⟩
  unfold sTry at p
  cases e : fb ρ S with
  | nx ρ1 S1 => rw [e] at p; exact p
  | rt d S1 => rw [e] at p; exact p
  | bk ρ1 S1 => rw [e] at p; exact p
  | ct ρ1 S1 => rw [e] at p; exact p
  | stuck => rw [e] at p; exact p
  | exn x ρ1 S1 => rw [e] at p; exact fun w1 H1 σ1 cls dx r1 hx => hh.wish p r1 hx
/-! ### the caught exception's fields -/
theorem RepF.look {K : PySem.W.Frag} {w : Wit} {f : Str} : ∀ {fs : List (Str × D)} {vs : List (Str × V)} {d : D}, RepF K w fs vs → fs.lookup f = some d → ∃ v, vs.lookup f = some v ∧ Rep K w d v
  | _, _, d, .nil, h => by cases h
  | _, _, d, @RepF.cons _ _ k d' v ds vs h t, e => by
    simp only [List.lookup] at e ⊢
    cases q : f == k with
    | true => rw [q] at e; cases e; exact ⟨v, rfl, h⟩
    | false => rw [q] at e; exact RepF.look t e
def eXf (i : Nat) (cs : List Str) (f : Str) (x : D) : EF := fun ρ S => match ρ[i]? with
  | some none => (match x with
    | .ins c fs => if c ∈ cs then .ofOpt (fs.lookup f) S else .stuck
    | _ => .stuck)
  | _ => .stuck
theorem _root_.L2.PE.ex {X : Cx} {e : Expr} {α : Type} {p : α → Prop} {t : α → TE} (h : ∀ x, p x → PE X e (t x)) : PE X e (fun σ H Q => ∃ x, p x ∧ t x σ H Q) := ⟨fun pins s σ H Q I ⟨x, px, q⟩ => (h x px).run pins s σ H Q I q⟩
theorem de_xf {X : Cx} {O : List Nat} {a : Addr} {oe : Obj} {cls : Value} {d : Option Addr} {pn : List (Addr × Obj)} {n f : Str} {i : Nat} {x : D} {p pos : Pos} (cs : List Str) (hT : ∀ c ∈ cs, XfC X.K (He.ga X.K c) ∧ PySem.W.findIn X.K (.ref (He.ga X.K c)) f = some none)
    (hz : Zc cls d oe) (hf : ∃ vs, oe.data = .fields vs) (hi : i ∈ O := by decide) (hN : (X.suite a ((a, oe) :: pn)).N[i]? = some n := by rfl) (hv : Vis (X.suite a ((a, oe) :: pn)).env.scope n := by first | exact Or.inl rfl | exact Or.inr (Or.inl rfl) | exact Or.inr (Or.inr rfl)) (hd : (n == ("__debug__" : Str)) = false := by decide) (hcd : (n == ("__classdict__" : Str)) = false := by decide)
    (hb : attributeBase (.Name n p) f X.env (eval (.Name n p) X.env) = eval (.Name n p) X.env := by rfl) : DE .e (X.suite a ((a, oe) :: pn)) (Wx i a cls d x) O (.Attribute (.Name n p) f pos) (eXf i cs f x) := by
  refine ⟨(PE.ex (p := fun c => c ∈ cs) fun c hc => pe_xf (d := d) (cls := cls) (C := He.ga X.K c) (te := tVar i) (hT c hc).1 (hT c hc).2 hz hf (pe_var hN hv hd hcd) hb).imp ?_⟩
  rintro σ H Q ⟨ent, w, ρ, S, r, p⟩
  unfold eXf at p
  cases e0 : ρ[i]? with
  | none => rw [e0] at p; exact p.elim
  | some o => cases o with
    | some _ => rw [e0] at p; exact p.elim
    | none =>
      rw [e0] at p
      dsimp only at p
      obtain ⟨s1, c, fs, ex, ec, h⟩ := r.exc ⟨i, a, cls, d, x⟩ rfl hi e0
      have ex : x = .ins c fs := ex
      subst ex
      dsimp only at p
      split at p
      · rename_i hc
        refine ⟨c, hc, .ref a, s1, rfl, ec, ?_⟩
        rcases h with ⟨_, rfl⟩ | ⟨dd, vs, ed, hH, rf⟩
        · exact p.elim
        · cases e1 : fs.lookup f with
          | none => rw [e1] at p; exact p.elim
          | some dv =>
            rw [e1] at p
            obtain ⟨v, l, rv⟩ := rf.look e1
            exact ⟨dd, vs, v, ed, hH, l, p v H w (.refl _ _) r.gd rv⟩
      · exact p.elim
end DL

set_option maxHeartbeats 1000000
/-! raise of own exceptions with fields; dicts of the module; the hook with further facts -/
namespace DL
open PySem PySem.Spec PyProof.Rows L2

/-! ### an own exception class whose __init__ stores its arguments -/
def oexB (K : PySem.W.Frag) (C : Addr) : Bool := (match K.lookup C with
    | some ⟨.type t, _, .cls cd, sl⟩ => decide (t = "type") && (cd.hasDict && (!cd.hasDel && ((match cd.mro with
        | .ref c :: bm => decide (c = C) && PySem.HandSPX.refsVE bm
        | _ => false) && (match sl.toList with
        | [_, _, _, _, k4, _] => decide (k4 = some (.builtin "ValueError.__new__"))
        | _ => false))))
    | _ => false) && (decide (PySem.W.findIn K (.ref C) "__setattr__" = some (some (.builtin "object.__setattr__"))) && (decide (PySem.W.subIn K (.ref C) (.type "BaseException") = some true) && (decide (PySem.W.typeIn K (.ref C) = some (.type "type")) && PySem.W.keepIn K (.ref C))))
theorem oexB_ok {K : PySem.W.Frag} {C : Addr} (h : oexB K C = true) : OexC K C := by
  unfold oexB at h
  obtain ⟨h1, h⟩ := Bool.and_eq_true_iff.mp h
  obtain ⟨h2, h⟩ := Bool.and_eq_true_iff.mp h
  obtain ⟨h3, h⟩ := Bool.and_eq_true_iff.mp h
  obtain ⟨h4, h5⟩ := Bool.and_eq_true_iff.mp h
  refine ⟨?_, of_decide_eq_true h2, of_decide_eq_true h3, of_decide_eq_true h4, h5⟩
  cases e : K.lookup C with
  | none => rw [e] at h1; cases h1
  | some o =>
    rw [e] at h1
    obtain ⟨oc, od, dt, sl⟩ := o
    cases oc with
    | type t =>
      cases dt with
      | cls cd =>
        dsimp only at h1
        obtain ⟨g1, h1⟩ := Bool.and_eq_true_iff.mp h1
        obtain ⟨g2, h1⟩ := Bool.and_eq_true_iff.mp h1
        obtain ⟨g3, h1⟩ := Bool.and_eq_true_iff.mp h1
        obtain ⟨g4, g5⟩ := Bool.and_eq_true_iff.mp h1
        have e1 : t = "type" := of_decide_eq_true g1
        subst e1
        obtain ⟨nm, bs, mro, ns, qn, hd, sn, sb, ab, col, del⟩ := cd
        dsimp only at g2 g3 g4
        subst g2
        have e3 : del = false := by cases del <;> simp_all
        subst e3
        match mro, g4 with
        | .ref c :: bm, g4 =>
          obtain ⟨k1, k2⟩ := Bool.and_eq_true_iff.mp g4
          have ec : c = C := of_decide_eq_true k1
          subst ec
          obtain ⟨sl⟩ := sl
          match sl, g5 with
          | [a0, a1, a2, a3, a4, a5], g5 =>
            have e4 : a4 = some (.builtin "ValueError.__new__") := of_decide_eq_true g5
            subst e4
            exact ⟨nm, qn, ns, bs, bm, sn, sb, ab, col, od, a0, a1, a2, a3, a5, rfl, k2⟩
      | _ => cases h1
    | _ => cases dt <;> cases h1
/-- where an exception stands in the making: its dict at d with fs -/
def mkX (H : Hp) (a d C : Addr) (fs : List (Str × V)) : Hp := fun b => if b = a then some (exo a C (some d)) else if b = d then some (exd d fs) else H b
/-- C.__init__(self, x1, .., xn) stores the fields fs -/
def spI (K : PySem.W.Frag) (fs : List Str) : Sp := fun vs H Q _ => ∃ a xs C, vs = .ref a :: xs ∧ xs.length = fs.length ∧ OexC K C ∧ (∀ f ∈ fs, PySem.W.findIn K (.ref C) f = some none) ∧ H a = some (exo a C none) ∧ ∀ d, H d = none → d ≠ a → Q .non (mkX H a d C (fs.zip xs).reverse)
theorem mkX_one {H : Hp} {a d C : Addr} {f : Str} {y : V} : upd (upd H d (exd d [(f, y)])) a (exo a C (some d)) = mkX H a d C [(f, y)] := by
  funext b
  simp only [upd, mkX]
theorem mkX_more {H : Hp} {a d C : Addr} {fs fs' : List (Str × V)} (h : d ≠ a) : upd (mkX H a d C fs) d (exd d fs') = mkX H a d C fs' := by
  funext b
  simp only [upd, mkX]
  by_cases q : b = d
  · subst q; simp [h]
  · simp [q]
section
variable {X : Cx} {K : PySem.W.Frag}
theorem mkX_a {H : Hp} {a d C : Addr} {fs : List (Str × V)} : mkX H a d C fs a = some (exo a C (some d)) := by simp [mkX]
theorem mkX_d {H : Hp} {a d C : Addr} {fs : List (Str × V)} (h : d ≠ a) : mkX H a d C fs d = some (exd d fs) := by simp [mkX, h]
/-- the walk of an __init__ with one, two, three fields -/
theorem init1 {f : Str} {N : List Str} {vs : List V} {H : Hp} {Q : VK} {E : XK} {Dn : L2.St → Hp → Prop} (hN : 2 ≤ N.length) (h : spI K [f] vs H Q E) (hD : ∀ σ H', Q .non H' → Dn σ H') : tOst K f (tVar 0) (tVar 1) { nx := Dn, rt := Q } (L2.start N vs) H := by
  obtain ⟨a, xs, C, rfl, hl, T, hno, ha, q⟩ := h
  match xs, hl, q with
  | [y], _, q =>
    exact ⟨y, by simp [L2.start], .ref a, by simp [L2.start], a, C, rfl, T, hno f (by simp), .inl ⟨ha, fun d nd ne => by rw [mkX_one]; exact hD _ _ (q d nd ne)⟩⟩
theorem init2 {f g : Str} {N : List Str} {vs : List V} {H : Hp} {Q : VK} {E : XK} (h : spI K [f, g] vs H Q E) : tSeq (tOst K f (tVar 0) (tVar 1)) (tOst K g (tVar 0) (tVar 2)) { nx := fun _ H' => Q .non H', rt := Q } (L2.start N vs) H := by
  obtain ⟨a, xs, C, rfl, hl, T, hno, ha, q⟩ := h
  match xs, hl, q with
  | [y, z], _, q =>
    refine ⟨y, by simp [L2.start], .ref a, by simp [L2.start], a, C, rfl, T, hno f (by simp), .inl ⟨ha, fun d nd ne => ?_⟩⟩
    rw [mkX_one]
    refine ⟨z, by simp [L2.start], .ref a, by simp [L2.start], a, C, rfl, T, hno g (by simp), .inr ⟨d, [(f, y)], mkX_a, mkX_d ne, by simp, ?_⟩⟩
    rw [mkX_more ne]
    exact q d nd ne
theorem init3 {f g k : Str} {N : List Str} {vs : List V} {H : Hp} {Q : VK} {E : XK} (h : spI K [f, g, k] vs H Q E) : tSeq (tOst K f (tVar 0) (tVar 1)) (tSeq (tOst K g (tVar 0) (tVar 2)) (tOst K k (tVar 0) (tVar 3))) { nx := fun _ H' => Q .non H', rt := Q } (L2.start N vs) H := by
  obtain ⟨a, xs, C, rfl, hl, T, hno, ha, q⟩ := h
  match xs, hl, q with
  | [y, z, u], _, q =>
    refine ⟨y, by simp [L2.start], .ref a, by simp [L2.start], a, C, rfl, T, hno f (by simp), .inl ⟨ha, fun d nd ne => ?_⟩⟩
    rw [mkX_one]
    refine ⟨z, by simp [L2.start], .ref a, by simp [L2.start], a, C, rfl, T, hno g (by simp), .inr ⟨d, [(f, y)], mkX_a, mkX_d ne, by simp, ?_⟩⟩
    rw [mkX_more ne]
    refine ⟨u, by simp [L2.start], .ref a, by simp [L2.start], a, C, rfl, T, hno k (by simp), .inr ⟨d, [(g, z), (f, y)], mkX_a, mkX_d ne, by simp, ?_⟩⟩
    rw [mkX_more ne]
    exact q d nd ne
end
/-- the class x can be raised with the fields fs -/
structure Xok (P : Program) (w : World) (K : PySem.W.Frag) (mg : Str → Option Value) (base : Heap) (x : Str) (fs : List Str) : Prop where
  ex : ∃ fI fd, OexC K (He.ga K x) ∧ PySem.W.findIn K (.ref (He.ga K x)) "__init__" = some (some (.ref fI)) ∧ PySem.W.typeIn K (.ref fI) = some (.type "function") ∧ FnOk P w K mg base CX0 1 fI fd ("self" :: fs) (spI K fs) ∧ Binds K fd ("self" :: fs) []
  no : ∀ f ∈ fs, PySem.W.findIn K (.ref (He.ga K x)) f = some none
  mg_ : mg x = some (.ref (He.ga K x))
def sRaise (x : Str) (fs : List Str) (fa : AF) : SF := fun ρ S => match fa ρ S with
  | .ok ds S1 => .exn (.ins x (fs.zip ds).reverse) ρ S1
  | .exn y S1 => .exn y ρ S1
  | .stuck => .stuck
theorem repF_rev {K : PySem.W.Frag} {w : Wit} {fs : List Str} {ds : List D} {vs : List V} (h : Reps K w ds vs) : RepF K w (fs.zip ds).reverse (fs.zip vs).reverse := by
  have app : ∀ {a : List (Str × D)} {b : List (Str × V)} {a' : List (Str × D)} {b' : List (Str × V)}, RepF K w a b → RepF K w a' b' → RepF K w (a ++ a') (b ++ b') := by
    intro a b a' b' h h'
    induction a generalizing b with
    | nil => cases h; exact h'
    | cons p a ih => cases h with | cons h t => exact .cons h (ih t)
  induction ds generalizing vs fs with
  | nil => cases h; cases fs <;> exact .nil
  | cons d ds ih =>
    cases h with
    | cons h t =>
      cases fs with
      | nil => exact .nil
      | cons f fs =>
        simp only [List.zip_cons_cons, List.reverse_cons]
        exact app (ih t) (.cons h .nil)
section
variable {X : Cx} {W : WZ} {L : Lp} {O O' : List Nat} {e : Expr} {es : List Expr} {fa : AF} {x : Str} {fs : List Str} {p pos pos' : Pos}
theorem ds_raise (h : Xok X.prog X.w X.K X.mg X.base x fs) (hr : Room 2 X.A) (tk : Takes X W.wx) (ha : DA X W O (e :: es) fa) (hlen : ∀ ρ S ds S1, fa ρ S = .ok ds S1 → ds.length = fs.length) (hfl : fs.length ≤ 900 := by decide) (hc : X.calm = true := by rfl) (hg : Gl X x := by rfl)
    (hdb : (x == ("__debug__" : Str)) = false := by decide) (he : starEach (e :: es) X.env = (false, eval e X.env) :: starEach es X.env := by rfl) (hpl : (backTo pos (starEach es X.env)).any (·.1) = false := by rfl) :
    DS X W L O (.Raise (some (.Call (.Name x p) (e :: es) [] pos)) none pos') O' (sRaise x fs fa) := by
  obtain ⟨fI, fd, T, iC, tI, F1, hb⟩ := h.ex
  refine ⟨(ps_raise hc tk (pmk_oex (dvs := []) T iC tI F1 hr hb .nil pass0 hg h.mg_ ha.pa hdb he hpl)).imp ?_⟩
  rintro En σ H ⟨ent, w, ρ, S, r, p⟩
  refine ⟨ent, w, ρ, S, r, ?_⟩
  unfold sRaise at p
  cases e1 : fa ρ S with
  | stuck => rw [e1] at p; exact p
  | exn y S1 => rw [e1] at p; exact exn_of r p
  | ok ds S1 =>
    rw [e1] at p
    intro vs H1 w1 x1 g1 z
    have z : Reps X.K w1 ds vs := z
    have hl : vs.length = fs.length := by rw [← z.length]; exact hlen _ _ _ _ e1
    refine ⟨by omega, fun a na => ⟨a, vs, He.ga X.K x, by rw [List.append_nil], hl, T, h.no, upd_same, fun d nd ne => ⟨rfl, d, _, mkX_a, mkX_d ne, ?_, ?_⟩⟩⟩
    · rw [upd_ne ne] at nd; exact nd
    · have nd1 : H1 d = none := by rw [upd_ne ne] at nd; exact nd
      have eH : upd (del (mkX (upd H1 a (exo a (He.ga X.K x) none)) a d (He.ga X.K x) (fs.zip vs).reverse) a) d (.xd (fs.zip vs).reverse) = upd H1 d (.xd (fs.zip vs).reverse) := by
        funext b
        simp only [upd, del, mkX]
        by_cases q : b = d
        · simp [q]
        · by_cases q2 : b = a
          · subst q2; simp [q, na]
          · simp [q, q2]
      rw [eH]
      have x2 : Ext w1 H1 w1 (upd H1 d (.xd (fs.zip vs).reverse)) := Ext.newO w1 nd1
      obtain ⟨w3, l3, r3⟩ := ((r.later x1 g1).later x2 (g1.newO nd1)).weak [] (by simp)
      exact p w3 _ σ _ _ r3 ⟨x, _, rfl, rfl, .inr ⟨d, _, rfl, upd_same, (repF_rev z).mono l3⟩⟩
end
end DL

set_option maxHeartbeats 1000000
/-! dicts of the module with text keys -/
namespace DL
open PySem PySem.Spec PyProof.Rows L2

def keyS (e : DictEntry) : Option Str := match e.key with
  | .str x _ => some x
  | _ => none
def kdB (K : PySem.W.Frag) (a : Addr) (kvs : List (Str × He.Dv)) : Bool := (match K.lookup a with
    | some ⟨_, _, .dict es _, _⟩ => decide (es.toList.map keyS = kvs.map fun q => some q.1)
    | _ => false) && He.valsB K a kvs
theorem lookup_mem {α : Type} {z : Str} {d : α} : ∀ {l : List (Str × α)}, l.lookup z = some d → (z, d) ∈ l
  | [], h => by cases h
  | (k, v) :: l, h => by
    simp only [List.lookup] at h
    cases q : z == k with
    | true =>
      rw [q] at h; cases h
      have : z = k := by simpa using q
      subst this
      exact List.mem_cons_self
    | false => rw [q] at h; exact List.mem_cons_of_mem _ (lookup_mem h)
theorem lookup_none {α : Type} {z : Str} : ∀ {l : List (Str × α)}, l.lookup z = none → ∀ q ∈ l, q.1 ≠ z
  | [], _, q, hq => by cases hq
  | (k, v) :: l, h, q, hq => by
    simp only [List.lookup] at h
    cases e : z == k with
    | true => rw [e] at h; cases h
    | false =>
      rw [e] at h
      rcases List.mem_cons.mp hq with rfl | hq
      · intro z'; subst z'; simp at e
      · exact lookup_none h q hq
theorem kdB_find {K : PySem.W.Frag} {a : Addr} {kvs : List (Str × He.Dv)} (h : kdB K a kvs = true) (z : Str) : ∃ r, PySem.W.nsIn K a z = some r ∧ match kvs.lookup z, r with
    | some dv, some u => L2.RelV (dv.v K) u
    | none, none => True
    | _, _ => False := by
  unfold kdB at h
  obtain ⟨h1, h2⟩ := Bool.and_eq_true_iff.mp h
  cases e : kvs.lookup z with
  | some dv =>
    obtain ⟨u, hu, ru⟩ := He.valsB_ok h2 (lookup_mem e)
    exact ⟨some u, hu, ru⟩
  | none =>
    refine ⟨none, ?_, trivial⟩
    have hno := lookup_none e
    unfold PySem.W.nsIn
    cases el : K.lookup a with
    | none => rw [el] at h1; cases h1
    | some o =>
      rw [el] at h1
      obtain ⟨oc, od, dt, sl⟩ := o
      cases dt with
      | dict es ep =>
        dsimp only at h1 ⊢
        have hk : es.toList.map keyS = kvs.map fun q => some q.1 := of_decide_eq_true h1
        have key : ∀ en ∈ es.toList, ∃ x t, en.key = .str x t ∧ x ≠ z := by
          intro en hen
          have hm : keyS en ∈ es.toList.map keyS := List.mem_map_of_mem hen
          rw [hk] at hm
          obtain ⟨q, hq, eq⟩ := List.mem_map.mp hm
          unfold keyS at eq
          split at eq
          · rename_i x t ek
            have e' : q.1 = x := Option.some.inj eq
            exact ⟨x, t, ek, by rw [← e']; exact hno q hq⟩
          · cases eq
        have f1 : es.toList.find? (·.key.isStr z) = none := by
          rw [List.find?_eq_none]
          intro en hen
          obtain ⟨x, t, ek, nx⟩ := key en hen
          rw [ek, PySem.W.isStr_of]
          simpa [Value.isStrOf] using nx
        have f2 : es.toList.any (·.refKey) = false := by
          rw [List.any_eq_false]
          intro en hen
          obtain ⟨x, t, ek, nx⟩ := key en hen
          unfold DictEntry.refKey
          rw [ek]
          simp
        rw [f1, f2]
        rfl
      | _ => cases h1
/-- the module's dict x -/
structure KTab (K : PySem.W.Frag) (w : World) (mg : Str → Option Value) (x : Str) (tab : List (Str × He.Dv)) : Prop where
  ex : ∃ es n, KDict K w (He.ga K x) es n
  kd : kdB K (He.ga K x) tab = true
  mg_ : mg x = some (.ref (He.ga K x))
def dvD : He.Dv → Option D
  | .non => some .non
  | .bl b => some (.bl b)
  | .int i => some (.int i)
  | .str x => some (.str x)
  | _ => none
theorem dvD_rep {K : PySem.W.Frag} {w : Wit} {dv : He.Dv} {d : D} (h : dvD dv = some d) : Rep K w d (dv.v K) := by
  cases dv <;> simp [dvD] at h <;> subst h
  · exact .non
  · exact .bl _
  · exact .int _
  · exact .str _
def kSub (tab : List (Str × He.Dv)) (x : D) : Option D := match x with
  | .str z => (tab.lookup z).bind dvD
  | _ => none
def kIn (tab : List (Str × He.Dv)) (x : D) : Option D := match x with
  | .str z => some (.bl (tab.lookup z).isSome)
  | _ => none
def kNotIn (tab : List (Str × He.Dv)) (x : D) : Option D := match x with
  | .str z => some (.bl (!(tab.lookup z).isSome))
  | _ => none
def eKget (tab : List (Str × He.Dv)) (fk fx : EF) : EF := fun ρ S => (fk ρ S).bind fun k S1 => (fx ρ S1).bind fun x S2 => match deref S2 k with
  | .str z => (match tab.lookup z with
    | some dv => .ofOpt (dvD dv) S2
    | none => .ok x S2)
  | _ => .stuck
section
variable {X : Cx} {W : WZ} {O : List Nat} {a : Expr} {fa : EF} {k : Kd} {x : Str} {tab : List (Str × He.Dv)} {p pos : Pos}
theorem de_ksub (h : KTab X.K X.w X.mg x tab) (ha : DE k X W O a fa) (hs : NoSl a := by exact fun _ _ => rfl) (hg : Gl X x := by rfl) (hd : (x == ("__debug__" : Str)) = false := by decide) : DE .e X W O (.Subscript (.Name x p) a pos) (e1 (kSub tab) fa) := by
  obtain ⟨es, n, D⟩ := h.ex
  refine ⟨⟨fun pins s σ H Q I q => ?_⟩⟩
  refine subD_of PySem.F.slot_dict_getitem.lookup hs (thn ((pe_glob (pos := p) hg h.mg_ (v := .ref (He.ga X.K x)) rfl hd).run pins s σ H (fun v H' => v = .ref (He.ga X.K x) ∧ H' = H) I ⟨rfl, rfl⟩) fun u s1 ⟨v1, H1, I1, rv, ev, eH⟩ => ?_)
  subst ev eH
  obtain rfl : u = Value.ref (He.ga X.K x) := rv
  obtain ⟨ent, w, ρ, S, r, p⟩ := q
  refine thn (ha.pe.run pins s1 σ H1 (fun v H' => ∃ (z : Str) (u0 : Value) (v0 : V), v = .str z ∧ PySem.W.nsIn X.K (He.ga X.K x) z = some (some u0) ∧ L2.RelV v0 u0 ∧ Q v0 H') I1 ⟨ent, w, ρ, S, r, p.bind fun d S1 v H2 w2 x2 g2 z2 p2 => ?_⟩) fun iv s2 ⟨v, H2, I2, rv2, z, u0, v0, ev, en, r0, q0⟩ => ?_
  · have v2 := (z2.ext (H1 := H2) (.refl _ _)).vw g2
    generalize deref S1 d = D1 at v2 p2
    cases v2 with
    | str z =>
      obtain ⟨rr, e1, e2⟩ := kdB_find h.kd z
      simp only [kSub] at p2
      cases el : tab.lookup z with
      | none => rw [el] at p2; exact p2.elim
      | some dv =>
        rw [el] at p2 e2
        cases rr with
        | none => exact e2.elim
        | some u0 =>
          simp only [Option.bind_some] at p2
          cases ed : dvD dv with
          | none => rw [ed] at p2; exact p2.elim
          | some d' =>
            rw [ed] at p2
            exact ⟨z, u0, dv.v X.K, rfl, e1, e2, p2 _ H2 w2 (.refl _ _) g2 (dvD_rep ed)⟩
    | _ => exact p2.elim
  · subst ev
    exact ⟨kd_type D I2, op_item_kd D pins s2 σ H2 (.ref (He.ga X.K x)) (.str z) _ iv Q I2 rfl rv2 ⟨z, u0, v0, rfl, rfl, en, r0, q0⟩⟩
theorem kin_of {neg : Bool} {g : D → Option D} (hg : ∀ z d, g (.str z) = some d → d = .bl (if neg then !(tab.lookup z).isSome else (tab.lookup z).isSome)) (hg2 : ∀ d d', g d = some d' → ∃ z, d = .str z) (h : kdB X.K (He.ga X.K x) tab = true) : ∀ σ H Q, rd X.K .e W O (e1 g fa) σ H Q →
    tOp (fun x1 y H Q => ∃ (z : Str) (r : Option Value), x1 = .str z ∧ y = .ref (He.ga X.K x) ∧ PySem.W.nsIn X.K (He.ga X.K x) z = some r ∧ Q (.bl (if neg then !r.isSome else r.isSome)) H) (rd X.K k W O fa) (tC (.ref (He.ga X.K x))) σ H Q := by
  rintro σ H Q ⟨ent, w, ρ, S, r, p⟩
  refine ⟨ent, w, ρ, S, r, p.bind fun d S1 v H2 w2 x2 g2 z2 p2 => ?_⟩
  have v2 := (z2.ext (H1 := H2) (.refl _ _)).vw g2
  cases e : g (deref S1 d) with
  | none => rw [e] at p2; exact p2.elim
  | some d' =>
    rw [e] at p2
    obtain ⟨z, ez⟩ := hg2 _ _ e
    rw [ez] at v2 e
    have ed := hg z d' e
    subst ed
    cases v2
    obtain ⟨rr, e1, e2⟩ := kdB_find h z
    refine ⟨z, rr, rfl, rfl, e1, ?_⟩
    have : rr.isSome = (tab.lookup z).isSome := by
      cases el : tab.lookup z <;> rw [el] at e2 <;> cases rr <;> first | rfl | exact e2.elim
    rw [this]
    exact p2 _ H2 w2 (.refl _ _) g2 (.bl _)
theorem de_kin (h : KTab X.K X.w X.mg x tab) (ha : DE k X W O a fa) (hg : Gl X x := by rfl) (hd : (x == ("__debug__" : Str)) = false := by decide) (hm : behindInMarks .In (.Name x p) = false := by first | exact nomark _ | rfl) : DE .e X W O (.Compare a [.In] [.Name x p] pos) (e1 (kIn tab) fa) := by
  obtain ⟨es, n, D⟩ := h.ex
  exact ⟨(pe_cmpR (op_in_kd D) ha.pe (pe_glob hg h.mg_ (v := .ref (He.ga X.K x)) rfl hd) hm).imp (kin_of (neg := false) (fun z d e => by cases e; rfl) (fun d d' e => by cases d <;> first | exact ⟨_, rfl⟩ | cases e) h.kd)⟩
theorem dt_kin (h : KTab X.K X.w X.mg x tab) (ha : DE k X W O a fa) (hg : Gl X x := by rfl) (hd : (x == ("__debug__" : Str)) = false := by decide) (hm : behindInMarks .In (.Name x p) = false := by first | exact nomark _ | rfl) : DT X W O (.Compare a [.In] [.Name x p] pos) (e1 (kIn tab) fa) := by
  obtain ⟨es, n, D⟩ := h.ex
  exact ⟨(pt_cmpR (op_in_kd D) ha.pe (pe_glob hg h.mg_ (v := .ref (He.ga X.K x)) rfl hd) hm).imp fun σ H Q q => kin_of (neg := false) (fun z d e => by cases e; rfl) (fun d d' e => by cases d <;> first | exact ⟨_, rfl⟩ | cases e) h.kd σ H _ (rdT_val (k := .e) σ H Q q)⟩
theorem de_kget {ek ex : Expr} {apos cpos : Pos} {fk fx : EF} {ka : Kd} (h : KTab X.K X.w X.mg x tab) (hk : DE ka X W O ek fk) (hx : DE .e X W O ex fx) (hg : Gl X x := by rfl) (hd : (x == ("__debug__" : Str)) = false := by decide) (m : M2 X (.Name x p) "get" apos ek ex cpos := by exact ⟨rfl, rfl, rfl, rfl⟩) :
    DE .e X W O (.Call (.Attribute (.Name x p) "get" apos) [ek, ex] [] cpos) (eKget tab fk fx) := by
  obtain ⟨es, n, D⟩ := h.ex
  refine ⟨⟨fun pins s σ H Q I q => ?_⟩⟩
  refine wpAny_Call_method m.base m.few m.line PySem.F.plainAttrs_dict PySem.F.slot_dict_get PySem.F.type_dict_get (thn ((pe_glob (pos := p) hg h.mg_ (v := .ref (He.ga X.K x)) rfl hd).run pins s σ H (fun v H' => v = .ref (He.ga X.K x) ∧ H' = H) I ⟨rfl, rfl⟩) fun u s1 ⟨v1, H1, I1, rv, ev, eH⟩ => ?_)
  subst ev eH
  obtain rfl : u = Value.ref (He.ga X.K x) := rv
  obtain ⟨ent, w, ρ, S, r, p⟩ := q
  refine ⟨kd_type D I1, fun b eb => by cases eb; exact ⟨_, I1.kIn _ _ D.at_, rfl⟩, ?_⟩
  rw [m.trees]
  unfold eKget at p
  refine Calls.callWith_builtin rfl (Calls.evalArgs_plain (Calls.spliced_cons (thn (hk.pe.run pins s1 σ H1 (fun y H2 => rd X.K .e W O fx σ H2 fun v3 H3 => ∃ (z : Str) (rr : Option Value), y = .str z ∧ PySem.W.nsIn X.K (He.ga X.K x) z = some rr ∧ (match rr with | some u => ∃ v', L2.RelV v' u ∧ Q v' H3 | none => Q v3 H3)) I1 ⟨ent, w, ρ, S, r, p.bind fun d S1 v H2 w2 x2 g2 z2 p2 => ⟨ent, w2, ρ, S1, r.later x2 g2, p2.bind fun d3 S3 v3 H3 w3 x3 g3 z3 p3 => ?_⟩⟩) fun iv s2 ⟨y, H2, I2, ry, q2⟩ =>
    Calls.spliced_cons (thn (hx.pe.run pins s2 σ H2 _ I2 q2) fun fv s3 ⟨v3, H3, I3, r3, z, rr, ey, en, q3⟩ => Calls.spliced_nil ?_))))
  · have v2 := (z2.ext (H1 := H3) x3).vw g3
    generalize deref S3 d = D1 at v2 p3
    cases v2 with
    | str z =>
      obtain ⟨rr, e1, e2⟩ := kdB_find h.kd z
      refine ⟨z, rr, rfl, e1, ?_⟩
      dsimp only at p3
      cases el : tab.lookup z with
      | none =>
        rw [el] at p3 e2
        cases rr with
        | some _ => exact e2.elim
        | none => exact p3 v3 H3 w3 (.refl _ _) g3 z3
      | some dv =>
        rw [el] at p3 e2
        cases rr with
        | none => exact e2.elim
        | some u0 =>
          dsimp only at p3
          cases ed : dvD dv with
          | none => rw [ed] at p3; exact p3.elim
          | some d' =>
            rw [ed] at p3
            exact ⟨dv.v X.K, e2, p3 _ H3 w3 (.refl _ _) g3 (dvD_rep ed)⟩
    | _ => exact p3.elim
  · subst ey
    obtain ⟨t, rfl⟩ : ∃ t, iv = .str z t := ry
    have mo := PySem.W.mapOf_K (prog := X.prog) (w := X.w) I3.kIn D.at_ D.lit
    have ef := PySem.W.find_K D.at_ en
    refine call_meetsIn PySem.F.slot_dict_get (kd_type D I3) PySem.F.entry_dict_get (PySem.F.args_dict_get_3 _ _ _) (meets_dict_get_default (strKind X.prog X.w) (He.ga X.K x) (PySem.strKind_is X.prog X.w z t) D.low fv) ⟨_, mo, ?_⟩
    rw [show findBy Value.isStrOf es z = rr from ef]
    cases rr with
    | none => exact ⟨v3, H3, I3.tok _, r3, q3⟩
    | some u0 =>
      obtain ⟨v', rv', q4⟩ := q3
      exact ⟨v', H3, I3.tok _, rv', q4⟩
end
end DL

set_option maxHeartbeats 1000000
/-! displayed dicts; the hook with further facts -/
namespace DL
open PySem PySem.Spec PyProof.Rows L2

def putP (kvs : List (D × D)) (k v : D) : Option (List (D × D)) := (kOf k).map fun kk => putKD kvs (fun x => decide (kOf x = some kk)) k v
def evP : List (EF × EF) → DEnv → Sto → List (D × D) → Res
  | [], _, S, acc => .ok (.dct acc) S
  | (fk, fv) :: r, ρ, S, acc => (fk ρ S).bind fun k S1 => (fv ρ S1).bind fun v S2 => match putP acc k v with
    | some acc' => evP r ρ S2 acc'
    | none => .stuck
def eDisp (fs : List (EF × EF)) : EF := fun ρ S => evP fs ρ S []
structure DPs (X : Cx) (W : WZ) (O : List Nat) (pos : Pos) (keys : List (Option Expr)) (values : List Expr) (fs : List (EF × EF)) : Prop where
  pp : PPs X pos keys values (fs.map fun p => (rd X.K .e W O p.1, rd X.K .e W O p.2))
section
variable {X : Cx} {W : WZ} {O : List Nat} {k v : Expr} {ks : List (Option Expr)} {vs : List Expr} {fk fv : EF} {fs : List (EF × EF)} {pos : Pos}
theorem dps_nil : DPs X W O pos [] [] [] := ⟨pps_nil⟩
theorem dps_cons (hk : DE .e X W O k fk) (hv : DE .e X W O v fv) (hr : DPs X W O pos ks vs fs) : DPs X W O pos (some k :: ks) (v :: vs) ((fk, fv) :: fs) := ⟨pps_cons hk.pe hv.pe hr.pp⟩
theorem disp_of {K : PySem.W.Frag} {σ : L2.St} {ent : Ent W.xc} {ρ : DEnv} {p : Addr} : ∀ {fs : List (EF × EF)} {w : Wit} {H : Hp} {S : Sto} {acc : List (D × D)} {Q : VK} {n : Nat} {pre : List (L2.Key × V)}, fs.length + n ≤ 15 → pre.length = n → R K ent O w H σ ρ S → Own K w H (.dct []) p → RepK K w acc (mergeK [] pre) →
    Post K .e w H W σ (evP fs ρ S acc) (fun _ _ => True) → (∀ d S2 kvs H2 w2, evP fs ρ S acc = .ok (.dct d) S2 → Ext w H w2 H2 → Gd K w2 H2 S2 → Own K w2 H2 (.dct []) p → RepK K w2 d (mergeK [] kvs) → Q (.ref p) (upd H2 p (.dK (mergeK [] kvs)))) →
    (∀ x S2, evP fs ρ S acc = .exn x S2 → ∀ cls dx H' w', Ext w H w' H' → Gd K w' H' S2 → RepX K w' H' x cls dx → W.wx cls dx σ H') →
    tPairs (fs.map fun p => (rd K .e W O p.1, rd K .e W O p.2)) σ H fun ps H2 => H2 p = some (.dK []) ∧ ∃ kvs : List (L2.Key × V), pre.map (fun kv => (kV kv.1, kv.2)) ++ ps = kvs.map (fun kv => (kV kv.1, kv.2)) ∧ kvs.length ≤ 15 ∧ Q (.ref p) (upd H2 p (.dK (mergeK [] kvs))) := by
  intro fs
  induction fs with
  | nil =>
    intro w H S acc Q n pre hn hp r o ra _ q _
    obtain ⟨_, _, vs, hH, rv⟩ := id o
    cases rv
    refine ⟨hH, pre, by simp, by simp at hn; omega, q _ _ _ _ _ rfl (.refl _ _) r.gd o ra⟩
  | cons f fs ih =>
    obtain ⟨fk, fv⟩ := f
    intro w H S acc Q n pre hn hp r o ra ps q qx
    show rd K .e W O fk σ H fun x H1 => rd K .e W O fv σ H1 fun y H2 => _
    refine ⟨ent, w, ρ, S, r, ?_⟩
    unfold evP at ps q qx
    cases e1 : fk ρ S with
    | stuck => rw [e1] at ps; exact ps.elim
    | exn x S1 => exact qx x S1 (by rw [e1]; rfl)
    | ok dk S1 =>
      rw [e1] at ps q qx
      simp only [Res.bind_ok] at ps q qx
      intro vk H1 w1 x1 g1 z1
      refine ⟨ent, w1, ρ, S1, r.later x1 g1, ?_⟩
      cases e2 : fv ρ S1 with
      | stuck => rw [e2] at ps; exact ps.elim
      | exn x S2 => exact fun cls dx H' w' y g' h => qx x S2 (by rw [e2]; rfl) cls dx H' w' (x1.trans y) g' h
      | ok dv S2 =>
        rw [e2] at ps q qx
        simp only [Res.bind_ok] at ps q qx
        intro vv H2 w2 x2 g2 z2
        cases e3 : putP acc dk dv with
        | none => rw [e3] at ps; exact ps.elim
        | some acc' =>
          rw [e3] at ps q qx
          dsimp only at ps q qx
          unfold putP at e3
          cases ek : kOf dk with
          | none => rw [ek] at e3; cases e3
          | some kk =>
            rw [ek] at e3; cases e3
            have evk : vk = kV kk := kOf_rep z1 ek
            have ra2 : RepK K w2 (putKD acc (fun x => decide (kOf x = some kk)) dk dv) (mergeK [] (pre ++ [(kk, vv)])) := by
              have : mergeK [] (pre ++ [(kk, vv)]) = putK (mergeK [] pre) kk vv := by unfold mergeK; rw [List.foldl_append]; rfl
              rw [this, kD_kOf ek]
              exact RepK.put ((ra.mono x1.le).mono x2.le) z2
            have := ih (Q := Q) (n := n + 1) (pre := pre ++ [(kk, vv)]) (by simp at hn; omega) (by simp [hp]) ((r.later x1 g1).later x2 g2) ((o.ext x1).ext x2) ra2 ((Post.later (x1.trans x2) ps)) (fun d S3 kvs H3 w3 e4 x3 g3 o3 r3 => q d S3 kvs H3 w3 e4 (x1.trans (x2.trans x3)) g3 o3 r3) (fun x S3 e4 cls dx H' w' y g' h => qx x S3 e4 cls dx H' w' (x1.trans (x2.trans y)) g' h)
            rw [evk]
            simpa only [List.map_append, List.map_cons, List.map_nil, List.append_assoc, List.singleton_append, List.cons_append, List.nil_append] using this
theorem de_disp (h : DPs X W O pos ks vs fs) (hall : ks.all (·.isSome) = true := by rfl) (hl : ks.length = vs.length := by rfl) (h0 : ks ≠ [] := by simp) (h15 : fs.length ≤ 15 := by decide) (h15' : ks.length ≤ 15 := by decide) : DE .f X W O (.Dict ks vs pos) (eDisp fs) := by
  refine ⟨(pe_disp h.pp hall hl h0 h15').imp ?_⟩
  rintro σ H Q ⟨ent, w, ρ, S, r, p⟩ a na
  have x0 : Ext w H w (upd H a (.dK [])) := Ext.newO w na
  have r0 := r.later x0 (r.gd.newO (o := .dK []) na)
  have o0 : Own X.K w (upd H a (.dK [])) (.dct []) a := ⟨r.gd.noneF na, r.gd.nophi na, [], upd_same, .nil⟩
  have dct : ∀ (fs : List (EF × EF)) (ρ : DEnv) (S : Sto) (acc : List (D × D)) (d : D) (S2 : Sto), evP fs ρ S acc = .ok d S2 → ∃ kvs, d = .dct kvs := by
    intro fs
    induction fs with
    | nil => intro ρ S acc d S2 e; cases e; exact ⟨_, rfl⟩
    | cons f fs ih =>
      intro ρ S acc d S2 e
      unfold evP at e
      cases e1 : f.1 ρ S with
      | stuck => rw [e1] at e; cases e
      | exn x S1 => rw [e1] at e; cases e
      | ok dk S1 =>
        rw [e1] at e
        simp only [Res.bind_ok] at e
        cases e2 : f.2 ρ S1 with
        | stuck => rw [e2] at e; cases e
        | exn x S1 => rw [e2] at e; cases e
        | ok dv S3 =>
          rw [e2] at e
          simp only [Res.bind_ok] at e
          cases e3 : putP acc dk dv with
          | none => rw [e3] at e; cases e
          | some acc' => rw [e3] at e; exact ih _ _ _ _ _ e
  have fin := disp_of (W := W) (Q := Q) (acc := []) (pre := []) (n := 0) (by simpa using h15) rfl r0 o0 (by unfold mergeK; exact .nil) ?_ ?_ ?_
  · simpa using fin
  · have p' : Post X.K .f w H W σ (evP fs ρ S []) Q := p
    cases e : evP fs ρ S [] with
    | ok d S2 => exact fun _ _ _ _ _ _ => trivial
    | exn x S2 => rw [e] at p'; exact fun cls dx H' w' y g' h => p' cls dx H' w' (x0.trans y) g' h
    | stuck => rw [e] at p'; exact p'
  · intro d S2 kvs H2 w2 e x2 g2 o2 r2
    have p' : Post X.K .f w H W σ (evP fs ρ S []) Q := p
    rw [e] at p'
    exact p' _ _ w2 ((x0.trans x2).updO na) (g2.updO o2.1 o2.2.1) ⟨a, rfl, na, own_dct o2 r2⟩
  · intro x S2 e cls dx H' w' y g' hx
    have p' : Post X.K .f w H W σ (evP fs ρ S []) Q := p
    rw [e] at p'
    exact p' cls dx H' w' (x0.trans y) g' hx
end
/-! ### the hook -/
abbrev AlX : Type := He.AlT × List Bool
def obsX (fa : List He.Fa) (fn : List He.DefD) (ts : List He.Tab) (bs : List (PySem.W.Frag → Bool)) (K : PySem.W.Frag) : AlX := (He.obsT fa fn ts K, bs.map fun b => b K)
def valX (fn : List He.DefD) (ts : List He.Tab) (bs : List (PySem.W.Frag → Bool)) (w : World) : AlX := (He.valT fn ts w, bs.map fun _ => true)
def obsXG (n : Nat) (fa : List He.Fa) (fn : List He.DefD) (ts : List He.Tab) (bs : List (PySem.W.Frag → Bool)) (g : Addr → Option Obj) : AlX := obsX fa fn ts bs (He.frG g (He.asD g n))
def SaysX (fa : List He.Fa) (fn : List He.DefD) (ts : List He.Tab) (bs : List (PySem.W.Frag → Bool)) (w : World) (K : PySem.W.Frag) : Prop := obsX fa fn ts bs K = valX fn ts bs w
def hookX (n : Nat) (fa : List He.Fa) (fn : List He.DefD) (ts : List He.Tab) (bs : List (PySem.W.Frag → Bool)) : PySem.W.Hook where
  α := AlX
  obs := fun s => obsXG n fa fn ts bs s.heap.get?
  val := fun w => valX fn ts bs w
  says := fun w h => ∃ K : PySem.W.Frag, K.In h ∧ SaysX fa fn ts bs w K
  of := fun _ _ e => ⟨_, He.frG_in, e⟩
  keeps := fun _ _ _ ⟨K, hK, c⟩ k => ⟨K, PySem.W.Frag.In.keeps hK k, c⟩
theorem obsXG_eq {n : Nat} {fa : List He.Fa} {fn : List He.DefD} {ts : List He.Tab} {bs : List (PySem.W.Frag → Bool)} {g : Addr → Option Obj} {s : Shared} (h : ∀ a, g a = s.heap.get? a) : obsXG n fa fn ts bs g = (hookX n fa fn ts bs).obs s := by
  have e : g = s.heap.get? := funext h
  rw [e]
  rfl
section
variable {fa : List He.Fa} {fn : List He.DefD} {ts : List He.Tab} {bs : List (PySem.W.Frag → Bool)} {w : World} {K : PySem.W.Frag}
theorem SaysX.t (c : SaysX fa fn ts bs w K) : He.SaysT fa fn ts w K := congrArg (fun z : AlX => z.1) c
theorem SaysX.d (c : SaysX fa fn ts bs w K) : He.SaysD fa fn K := c.t.d
theorem SaysX.b (c : SaysX fa fn ts bs w K) (i : Nat) {b : PySem.W.Frag → Bool} (h : bs[i]? = some b := by rfl) : b K = true := by
  have e : bs.map (fun b => b K) = bs.map fun _ => true := congrArg (fun z : AlX => z.2) c
  have e2 : (bs.map (fun b => b K))[i]? = (bs.map fun _ => true)[i]? := by rw [e]
  rw [List.getElem?_map, List.getElem?_map, h] at e2
  exact Option.some.inj e2
end
def clsB : Stmt → List Stmt
  | .ClassDef _ _ _ b _ _ _ _ _ _ _ => b
  | _ => []
end DL

set_option maxHeartbeats 4000000
namespace DL
open PySem PySem.Spec PyProof.Rows L2
/-- the script's list, read as data -/
theorem start_sp {K : PySem.W.Frag} {H : Hp} {a : Addr} {ns : List Int} {f : FF} (hf : ∀ cells : List Int, ∃ S, f [.lst (cells.map D.int)] [] = .ok (.bl true) S) (hS : SqL K H a (ns.map V.int)) :
    spD K 1 f [.ref a] H (fun v _ => v = .bl true) fun _ _ _ => False := by
  refine ⟨rfl, ⟨H, fun _ => 0, 0⟩, [], [.lst (ns.map D.int)], ⟨rfl, fun _ _ h => h, fun n o e => by simp at e, fun i j hi => absurd hi (Nat.not_lt_zero _), fun i hi => absurd hi (Nat.not_lt_zero _)⟩, .cons (.lst hS ?_) .nil, ?_⟩
  · clear hS
    induction ns with
    | nil => exact .nil
    | cons n ns ih => exact .cons (.int n) ih
  · obtain ⟨S', e⟩ := hf ns
    rw [e]
    intro v H' w' _ _ r
    cases r
    rfl
/-- a law that answers True on every script, its walk told -/
theorem lawAt {l : PySem.W.OpenLaw} {w : World} {K : PySem.W.Frag} {mg : Str → Option Value} {fa : Addr} {h : Heap} {k n : Nat} {x : Str} {f : FF}
    (hf : ∀ cells : List Int, ∃ S, f [.lst (cells.map D.int)] [] = .ok (.bl true) S) (hmg : mg ("law" : Str) = some (.ref fa))
    (o : ∃ fd : FuncData, (∀ (s : Shared) (u : Value), BindsTo s fd ⟨[u], []⟩ [(x, u)]) ∧ mg ("law" : Str) = some (.ref (He.ga K "law")) ∧ ∀ base : Heap, FnOk l.prog w K mg base (L2.CX l.prog w) k (He.ga K "law") fd [x] (spD K 1 f)) :
    LamX.LawAtS l w K (L2.CX l.prog w) k n x mg fa h := by
  obtain ⟨fd, hb, hm, hF⟩ := o
  have e := hmg.symm.trans hm
  cases e
  exact ⟨fd, [], spD K 1 f, fun _ hp => absurd hp (by simp), fun _ hp => absurd hp (by simp), fun _ hp => absurd hp (by simp), hb, fun H a ns _ _ _ hS => start_sp hf hS, fun base _ _ _ => hF base⟩
theorem noCX {P : Program} (w : World) (H : Hp) (s : Shared) (e : Value) (s' : Shared) (h : L2.CX P w [] H s (fun _ _ _ => False) e s') : False := by
  obtain ⟨_, _, _, _, _, _, _, _, _, _, _, _, z⟩ := h
  exact z
end DL

/-! plain lemmas on the data layer's functions -/
namespace DL
open PySem PySem.Spec PyProof.Rows L2

/-! ### data that may be compared -/
def okD (n : Nat) (d : D) : Bool := plD d && ((toPy d).canLay0 && decide ((toPy d).depth ≤ n))
theorem okD_sh {n : Nat} {d : D} (h : okD n d = true) (hn : n ≤ 64) : shD d = true := by
  simp only [okD, shD, SeqAt.shaped, Bool.and_eq_true, decide_eq_true_eq] at h ⊢
  exact ⟨h.1, h.2.1, by omega⟩
theorem okD_mono {n m : Nat} {d : D} (h : okD n d = true) (hn : n ≤ m) : okD m d = true := by
  simp only [okD, Bool.and_eq_true, decide_eq_true_eq] at h ⊢
  exact ⟨h.1, h.2.1, by omega⟩
theorem canLayAll0_of : ∀ {ds : List D}, (∀ d ∈ ds, (toPy d).canLay0 = true) → PyData.canLayAll0 (toPys ds) = true
  | [], _ => by simp [toPys, PyData.canLayAll0]
  | d :: ds, h => by
    simp only [toPys, PyData.canLayAll0, Bool.and_eq_true]
    exact ⟨h d List.mem_cons_self, canLayAll0_of fun x hx => h x (List.mem_cons_of_mem _ hx)⟩
theorem depthAll_of {n : Nat} : ∀ {ds : List D}, (∀ d ∈ ds, (toPy d).depth ≤ n) → PyData.depthAll (toPys ds) ≤ n
  | [], _ => by simp [toPys, PyData.depthAll]
  | d :: ds, h => by
    simp only [toPys, PyData.depthAll]
    have h1 := h d List.mem_cons_self
    have h2 := depthAll_of (ds := ds) (n := n) fun x hx => h x (List.mem_cons_of_mem _ hx)
    omega
theorem okD_tup {n : Nat} {ds : List D} (h : ∀ d ∈ ds, okD n d = true) : okD (n + 1) (.tup ds) = true := by
  simp only [okD, Bool.and_eq_true, decide_eq_true_eq] at h ⊢
  refine ⟨by simp only [plD, plDs_all, List.all_eq_true]; exact fun d hd => (h d hd).1, ?_, ?_⟩
  · simp only [toPy, PyData.canLay0]; exact canLayAll0_of fun d hd => (h d hd).2.1
  · simp only [toPy, PyData.depth]; have := depthAll_of (ds := ds) (n := n) fun d hd => (h d hd).2.2; omega
theorem okD_lst {n : Nat} {ds : List D} (h : ∀ d ∈ ds, okD n d = true) : okD (n + 1) (.lst ds) = true := by
  simp only [okD, Bool.and_eq_true, decide_eq_true_eq] at h ⊢
  refine ⟨by simp only [plD, plDs_all, List.all_eq_true]; exact fun d hd => (h d hd).1, ?_, ?_⟩
  · simp only [toPy, PyData.canLay0]; exact canLayAll0_of fun d hd => (h d hd).2.1
  · simp only [toPy, PyData.depth]; have := depthAll_of (ds := ds) (n := n) fun d hd => (h d hd).2.2; omega
theorem okD_int (i : Int) : okD 0 (.int i) = true := by simp [okD, plD, toPy, PyData.canLay0, PyData.depth]
theorem okD_bl (i : Bool) : okD 0 (.bl i) = true := by simp [okD, plD, toPy, PyData.canLay0, PyData.depth]
theorem okD_non : okD 0 .non = true := by simp [okD, plD, toPy, PyData.canLay0, PyData.depth]
/-! ### == -/
theorem beq_dec {α : Type} [DecidableEq α] [BEq α] [LawfulBEq α] (a b : α) : (a == b) = decide (a = b) := by by_cases h : a = b <;> simp [h]
theorem eqD_int (a b : Int) : eqD (.int a) (.int b) = decide (a = b) := by simp only [eqD, toPy, PyData.eqv]; exact beq_dec a b
theorem eqD_str (a b : Str) : eqD (.str a) (.str b) = decide (a = b) := by simp only [eqD, toPy, PyData.eqv]; exact beq_dec a b
theorem eqD_bl (a b : Bool) : eqD (.bl a) (.bl b) = decide (a = b) := by simp only [eqD, toPy, PyData.eqv]; exact beq_dec a b
theorem eqD_nil (xs : List D) : eqD (.tup xs) (.tup []) = xs.isEmpty := by cases xs <;> simp only [eqD, toPy, toPys, PyData.eqv, PyData.eqvAll] <;> rfl
theorem eqD_nilL (xs : List D) : eqD (.lst xs) (.lst []) = xs.isEmpty := by cases xs <;> simp only [eqD, toPy, toPys, PyData.eqv, PyData.eqvAll] <;> rfl

/-! ### comprehensions, loops -/
/-- a comprehension whose parts leave the store alone -/
theorem lcD_pure {g : GF} {fc fe : EF} {ρ : DEnv} {S : Sto} {pc : D → Bool} {pe : D → D} : ∀ {xs acc : List D}, (∀ x ∈ xs, ∃ ρ1, g x ρ = some ρ1 ∧ fc ρ1 S = .ok (.bl (pc x)) S ∧ (pc x = true → fe ρ1 S = .ok (pe x) S)) →
    lcD g fc fe xs acc ρ S = .ok (.lst (acc ++ (xs.filter pc).map pe)) S
  | [], acc, _ => by simp [lcD]
  | x :: xs, acc, h => by
    obtain ⟨ρ1, e1, e2, e3⟩ := h x List.mem_cons_self
    unfold lcD
    rw [e1]
    simp only [e2]
    cases hb : pc x with
    | false =>
      simp only [hb]
      rw [lcD_pure fun y hy => h y (List.mem_cons_of_mem _ hy)]
      simp [hb]
    | true =>
      simp only [e3 hb]
      rw [lcD_pure fun y hy => h y (List.mem_cons_of_mem _ hy)]
      simp [hb]
/-- a comprehension that draws: every item keeps P, the store keeps I -/
theorem lcD_draw {g : GF} {fe : EF} {ρ : DEnv} {P : D → Prop} {I : Sto → Prop} : ∀ {xs acc : List D} {S : Sto}, I S → (∀ x ∈ xs, ∀ S, I S → ∃ ρ1 d S', g x ρ = some ρ1 ∧ fe ρ1 S = .ok d S' ∧ P d ∧ I S') →
    ∃ ds S', lcD g eYes fe xs acc ρ S = .ok (.lst (acc ++ ds)) S' ∧ ds.length = xs.length ∧ (∀ d ∈ ds, P d) ∧ I S'
  | [], acc, S, hI, _ => ⟨[], S, by simp [lcD], rfl, by simp, hI⟩
  | x :: xs, acc, S, hI, h => by
    obtain ⟨ρ1, d, S1, e1, e2, hP, hI1⟩ := h x List.mem_cons_self S hI
    obtain ⟨ds, S2, e3, hl, hPs, hI2⟩ := lcD_draw (acc := acc ++ [d]) hI1 fun y hy => h y (List.mem_cons_of_mem _ hy)
    refine ⟨d :: ds, S2, ?_, by simp [hl], ?_, hI2⟩
    · unfold lcD
      rw [e1]
      simp only [eYes, e2, e3]
      simp
    · intro y hy
      rcases List.mem_cons.mp hy with rfl | hy
      · exact hP
      · exact hPs y hy
/-- a loop whose turns all go on -/
theorem forD_inv {g : GF} {body : SF} (I : Nat → DEnv → Sto → Prop) {xs : List D} : ∀ {ys : List D} {i : Nat} {ρ : DEnv} {S : Sto}, i ≤ xs.length → xs.drop i = ys → I i ρ S → (∀ i x ρ S, xs[i]? = some x → I i ρ S → ∃ ρ1 ρ2 S2, g x ρ = some ρ1 ∧ (body ρ1 S = .nx ρ2 S2 ∨ body ρ1 S = .ct ρ2 S2) ∧ I (i + 1) ρ2 S2) →
    ∃ ρ' S', forD g body ys ρ S = .nx ρ' S' ∧ I xs.length ρ' S'
  | [], i, ρ, S, hle, e, h, _ => by
    have hq : i = xs.length := Nat.le_antisymm hle (List.drop_eq_nil_iff.mp e)
    subst hq; exact ⟨ρ, S, rfl, h⟩
  | y :: ys, i, ρ, S, hle, e, h, hs => by
    have hx : xs[i]? = some y := by
      have := congrArg (fun l => l[0]?) e
      simpa using this
    have hi : i < xs.length := (List.getElem?_eq_some_iff.mp hx).1
    obtain ⟨ρ1, ρ2, S2, e1, e2, h2⟩ := hs i y ρ S hx h
    have e' : xs.drop (i + 1) = ys := by
      have := congrArg List.tail e
      simpa [List.tail_drop] using this
    obtain ⟨ρ', S', e3, h3⟩ := forD_inv I hi e' h2 hs
    refine ⟨ρ', S', ?_, h3⟩
    unfold forD
    rw [e1]
    rcases e2 with e2 | e2 <;> simp only [e2] <;> exact e3
theorem forD_all {g : GF} {body : SF} (I : Nat → DEnv → Sto → Prop) {xs : List D} {ρ : DEnv} {S : Sto} (h : I 0 ρ S) (hs : ∀ i x ρ S, xs[i]? = some x → I i ρ S → ∃ ρ1 ρ2 S2, g x ρ = some ρ1 ∧ (body ρ1 S = .nx ρ2 S2 ∨ body ρ1 S = .ct ρ2 S2) ∧ I (i + 1) ρ2 S2) :
    ∃ ρ' S', forD g body xs ρ S = .nx ρ' S' ∧ I xs.length ρ' S' := forD_inv I (i := 0) (Nat.zero_le _) (by simp) h hs
theorem dInts_len' (lo : Int) (n : Nat) : (dInts lo n).length = n := by simp [dInts]
theorem dInts_get {lo : Int} {n i : Nat} {x : D} (h : (dInts lo n)[i]? = some x) : i < n ∧ x = .int (lo + i) := by
  unfold dInts at h
  have hi : i < n := by have := (List.getElem?_eq_some_iff.mp h).1; simpa using this
  rw [List.getElem?_map, List.getElem?_range hi] at h
  cases h
  exact ⟨hi, rfl⟩
theorem atI_0 {α : Type} (x : α) (r : List α) : L2.atI (x :: r) 0 = some x := by
  unfold L2.atI ixN
  rw [if_pos (by decide), if_pos (by simp only [List.length_cons]; omega)]
  rfl
theorem atI_1 {α : Type} (x y : α) (r : List α) : L2.atI (x :: y :: r) 1 = some y := by
  unfold L2.atI ixN
  rw [if_pos (by decide), if_pos (by simp only [List.length_cons]; omega)]
  rfl
theorem atI_nat {α : Type} {xs : List α} {i : Nat} (h : i < xs.length) : L2.atI xs (i : Int) = xs[i]? := by
  unfold L2.atI ixN
  rw [if_pos (by omega), if_pos (by omega)]
  rfl
theorem cutD_tail (x : D) (xs : List D) : cutD (x :: xs) (some 1) none = xs := by
  unfold cutD
  simp [HT.sIx]
theorem lim_pos : (0 : Nat) < LIM := by decide
theorem lim_1 : (1 : Nat) < LIM := by decide
theorem lim_2 : (2 : Nat) < LIM := by decide
theorem lim_3 : (3 : Nat) < LIM := by decide
def intsD : Int → Nat → List D
  | _, 0 => []
  | i, n + 1 => .int i :: intsD (i + 1) n
theorem dInts_from : ∀ (n : Nat) (lo : Int), dInts lo n = intsD lo n
  | 0, lo => rfl
  | n + 1, lo => by
    unfold dInts intsD
    rw [List.range_succ_eq_map, List.map_cons, List.map_map]
    have e : lo + ((0 : Nat) : Int) = lo := by omega
    rw [e]
    congr 1
    rw [← dInts_from n (lo + 1)]
    unfold dInts
    apply List.map_congr_left
    intro k _
    show D.int (lo + ((k + 1 : Nat) : Int)) = D.int (lo + 1 + (k : Int))
    congr 1
    omega
theorem lim_of {n : Nat} (h : n ≤ 5000) : n < LIM := Nat.lt_of_le_of_lt h (by decide)
end DL

namespace K38
open DL PySem PySem.Spec PyProof.Rows L2
def tb_int : String → Bool := fun t => (t == "int") || (t == "bool")
def to_int : Str → Option Bool := fun _ => none
def tb_bool : String → Bool := fun t => (t == "bool")
def to_bool : Str → Option Bool := fun _ => none
def tb_str : String → Bool := fun t => (t == "str")
def to_str : Str → Option Bool := fun _ => none
def tb_tuple : String → Bool := fun t => (t == "tuple")
def to_tuple : Str → Option Bool := fun _ => none
def tb_tuple_list : String → Bool := fun t => (t == "tuple") || (t == "list")
def to_tuple_list : Str → Option Bool := fun _ => none
def tb_list : String → Bool := fun t => (t == "list")
def to_list : Str → Option Bool := fun _ => none
def tab_SIZES : List (Str × He.Dv) := [("class", .int (2)), ("field", .int (3)), ("method", .int (3))]
def tab_ENTRIES : List (Str × He.Dv) := [("new", .str ("class" : Str)), ("cast", .str ("class" : Str)), ("is", .str ("class" : Str)), ("get", .str ("field" : Str)), ("put", .str ("field" : Str)), ("call", .str ("method" : Str))]
def to_BadPool : Str → Option Bool := fun d => if d = "BadPool" then some true else if d = "BadPooled" then some false else none
def to_BadPooled : Str → Option Bool := fun d => if d = "BadPool" then some false else if d = "BadPooled" then some true else none
def b_is_in : SF :=
  (sRet (eAnd (e1 (isF tb_int to_int) (eVar 0)) (eAnd (eNot (e1 (isF tb_bool to_bool) (eVar 0))) (eChain (iLt fun i j => decide (i ≤ j)) (iLt fun i j => decide (i ≤ j)) (eVar 1) (eVar 0) (eVar 2)))))
def f_is_in : FF := fnD 3 b_is_in

def b_is_word : SF :=
  (sRet (eAnd (e1 (isF tb_str to_str) (eVar 0)) (eAnd (eChain (iLt fun i j => decide (i ≤ j)) (iLt fun i j => decide (i ≤ j)) (eC (.int 1)) (eN (f1 lenF) (aCons (eVar 0) aNil)) (eC (.int 6))) (eN (f1 allF) (aCons (eLc [1] (iStr (eVar 0)) (gtName 1) eYes (e2 signF (eVar 1) (eC (.str ("abcdefghijklmnopqrstuvwxyz" : Str))))) aNil)))))
def f_is_word : FF := fnD 2 b_is_word

def b_is_list : SF :=
  (sRet (eAnd (e1 (isF tb_tuple to_tuple) (eVar 0)) (e2 (iLt fun i j => decide (i ≤ j)) (eN (f1 lenF) (aCons (eVar 0) aNil)) (eVar 1))))
def f_is_list : FF := fnD 2 b_is_list

def b_has_form : SF :=
  (sSeq (sIf (eOr (eNot (e1 (isF tb_tuple to_tuple) (eVar 0))) (eOr (e2 eqF (eVar 0) (eTup aNil)) (eNot (e1 (isF tb_str to_str) (e2 ixF (eVar 0) (eC (.int 0))))))) (sRet (eC (.bl false))) sNext)
  (sRet (eAnd (e2 eqF (eKget tab_SIZES (e2 ixF (eVar 0) (eC (.int 0))) (eC (.int 0))) (eN (f1 lenF) (aCons (eVar 0) aNil))) (eN (f1 allF) (aCons (eLc [1] (iSeq (eSl slF (eVar 0) (e1 ptF (eC (.int 1))) (eC .non))) (gtName 1) eYes (eCall f_is_word (aCons (eVar 1) aNil))) aNil)))))
def f_has_form : FF := fnD 2 b_has_form

def b_named : SF :=
  (sSeq (sIf (eOr (e2 neF (eN (f1 lenF) (aCons (eVar 1) aNil)) (eC (.int 2))) (eNot (eCall f_is_in (aCons (e2 ixF (eVar 1) (eC (.int 1))) (aCons (eC (.int 0)) (aCons (e2 subF (eN (f1 lenF) (aCons (eVar 0) aNil)) (eC (.int 1))) aNil)))))) (sRet (eC .non)) sNext)
  (sSeq (sSet 2 (e2 ixF (eVar 0) (e2 ixF (eVar 1) (eC (.int 1)))))
  (sRet (eIf (e2 eqF (e2 ixF (eVar 2) (eC (.int 0))) (e1 (kSub tab_ENTRIES) (e2 ixF (eVar 1) (eC (.int 0))))) (eTup (aCons (e2 ixF (eVar 1) (eC (.int 0))) (aStar (eSl slF (eVar 2) (e1 ptF (eC (.int 1))) (eC .non)) aNil))) (eC .non)))))
def f_named : FF := fnD 3 b_named

def b_unpooled : SF :=
  (sSeq (sIf (eNot (eCall f_is_list (aCons (eVar 0) (aCons (eC (.int 99)) aNil)))) (sRaise ("BadPool" : Str) [("index" : Str)] (aCons (eC .non) aNil)) sNext)
  (sSeq (sFor (iEn (aCons (eVar 0) aNil)) (gtTup (gtCons (gtName 2) (gtCons (gtName 3) gtNil))) (sIf (eNot (eCall f_has_form (aCons (eVar 3) aNil))) (sRaise ("BadPool" : Str) [("index" : Str)] (aCons (eVar 2) aNil)) sNext))
  (sSeq (sIf (eOr (eNot (eCall f_is_list (aCons (eVar 1) (aCons (eC (.int 20)) aNil)))) (eNot (eN (f1 allF) (aCons (eLc [5] (iSeq (eVar 1)) (gtName 5) eYes (e1 (isF tb_tuple to_tuple) (eVar 5))) aNil)))) (sRaise ("BadPooled" : Str) [("step" : Str)] (aCons (eC .non) aNil)) sNext)
  (sSeq (sSet 4 (eLst aNil))
  (sSeq (sFor (iEn (aCons (eVar 1) aNil)) (gtTup (gtCons (gtName 2) (gtCons (gtName 5) gtNil))) (sSeq (sIf (eAnd (e2 neF (eVar 5) (eTup aNil)) (eAnd (e1 (isF tb_str to_str) (e2 ixF (eVar 5) (eC (.int 0)))) (e1 (kIn tab_ENTRIES) (e2 ixF (eVar 5) (eC (.int 0)))))) (sSet 5 (eCall f_named (aCons (eVar 0) (aCons (eVar 5) aNil)))) sNext)
  (sSeq (sIf (eIsN (eVar 5)) (sRaise ("BadPooled" : Str) [("step" : Str)] (aCons (eVar 2) aNil)) sNext)
  (sApp 4 (eVar 5)))))
  (sRet (eN (f1 tupF) (aCons (eVar 4) aNil))))))))
def f_unpooled : FF := fnD 6 b_unpooled

def b__law_taken : SF :=
  (sSeq (sIf (e2 (iLt fun i j => decide (j < i)) (e2 ixF (eVar 0) (eC (.int 3))) (eC (.int 0))) (sSeq (sSet 2 (e2 modF (eN (f1 intF) (aCons (e2 ixF (eVar 0) (eC (.int 3))) aNil)) (eVar 1)))
  (sSeq (sPutO (eVar 0) (eC (.int 3)) (e2 divF (e2 ixF (eVar 0) (eC (.int 3))) (eVar 1)))
  (sRet (eVar 2)))) sNext)
  (sSeq (sPutO (eVar 0) (eC (.int 1)) (e2 addF (e2 ixF (eVar 0) (eC (.int 1))) (eC (.int 1))))
  (sSeq (sIf (e2 (iLt fun i j => decide (j < i)) (e2 ixF (eVar 0) (eC (.int 1))) (eN (f1 lenF) (aCons (e2 ixF (eVar 0) (eC (.int 0))) aNil))) (sSeq (sPutO (eVar 0) (eC (.int 2)) (e2 modF (eN (f1 intF) (aCons (e2 addF (e2 mulF (e2 ixF (eVar 0) (eC (.int 2))) (eC (.int 48271))) (eC (.int 11))) aNil)) (eC (.int 2147483647))))
  (sRet (e2 modF (eN (f1 intF) (aCons (e2 divF (e2 ixF (eVar 0) (eC (.int 2))) (eC (.int 7))) aNil)) (eVar 1)))) sNext)
  (sSeq (sSet 3 (e2 ixF (e2 ixF (eVar 0) (eC (.int 0))) (e2 subF (e2 ixF (eVar 0) (eC (.int 1))) (eC (.int 1)))))
  (sSeq (sPutO (eVar 0) (eC (.int 2)) (e2 modF (eN (f1 intF) (aCons (e2 addF (e2 addF (e2 mulF (e2 ixF (eVar 0) (eC (.int 2))) (eC (.int 48271))) (eVar 3)) (eC (.int 11))) aNil)) (eC (.int 2147483647))))
  (sSeq (sIf (e2 (iLt fun i j => decide (j ≤ i)) (eVar 3) (e2 powF (eC (.int 10)) (eC (.int 18)))) (sPutO (eVar 0) (eC (.int 3)) (e2 divF (eVar 3) (eVar 1))) sNext)
  (sRet (e2 modF (eN (f1 intF) (aCons (eVar 3) aNil)) (eVar 1)))))))))
def f__law_taken : FF := fnD 4 b__law_taken

def b__law_pick : SF :=
  (sRet (e2 ixF (eVar 1) (eCall f__law_taken (aCons (eVar 0) (aCons (eN (f1 lenF) (aCons (eVar 1) aNil)) aNil)))))
def f__law_pick : FF := fnD 2 b__law_pick

def b__law_alike (self : FF) : SF :=
  (sSeq (sIf (e1 (isF tb_tuple_list to_tuple_list) (eVar 1)) (sSeq (sIf (eOr (eNot (e1 (isF tb_tuple_list to_tuple_list) (eVar 0))) (e2 neF (e1 (isF tb_list to_list) (eVar 0)) (e1 (isF tb_list to_list) (eVar 1)))) (sRet (eC (.bl false))) sNext)
  (sSeq (sIf (e2 neF (eN (f1 lenF) (aCons (eVar 0) aNil)) (eN (f1 lenF) (aCons (eVar 1) aNil))) (sRet (eC (.bl false))) sNext)
  (sRet (e2 eqF (eLc [2] (iRange1 (aCons (eN (f1 lenF) (aCons (eVar 1) aNil)) aNil)) (gtName 2) (eNot (eCall self (aCons (e2 ixF (eVar 0) (eVar 2)) (aCons (e2 ixF (eVar 1) (eVar 2)) aNil)))) (eVar 2)) (eLst aNil))))) sNext)
  (sSeq (sIf (eOr (eIsN (eVar 1)) (e1 (isF tb_str to_str) (eVar 1))) (sRet (eAnd (e2 eqF (eVar 0) (eVar 1)) (e2 eqF (e1 (isF tb_str to_str) (eVar 0)) (e1 (isF tb_str to_str) (eVar 1))))) sNext)
  (sRet (eAnd (e1 (isF tb_int to_int) (eVar 0)) (eAnd (e2 eqF (e1 (isF tb_bool to_bool) (eVar 0)) (e1 (isF tb_bool to_bool) (eVar 1))) (e2 eqF (eVar 0) (eVar 1)))))))
def f__law_alike : Nat → FF
  | 0 => fnD 3 sNever
  | k + 1 => fnD 3 (b__law_alike (f__law_alike k))

def b__law_told : SF :=
  (sTry (sRet (eCall f_unpooled (aCons (eVar 0) (aCons (eVar 1) aNil)))) (⟨to_BadPool, (some 2), fun x =>
  (sRet (eTup (aCons (eC (.str ("pool" : Str))) (aCons (eXf 2 [("BadPool" : Str)] ("index" : Str) x) aNil))))⟩ :: (⟨to_BadPooled, (some 2), fun x =>
  (sRet (eTup (aCons (eC (.str ("pooled" : Str))) (aCons (eXf 2 [("BadPooled" : Str)] ("step" : Str) x) aNil))))⟩ :: [])))
def f__law_told : FF := fnD 3 b__law_told

def b__law_due : SF :=
  (sSeq (sSet 2 (eDisp (((eC (.str ("new" : Str))), (eC (.str ("class" : Str)))) :: (((eC (.str ("cast" : Str))), (eC (.str ("class" : Str)))) :: (((eC (.str ("is" : Str))), (eC (.str ("class" : Str)))) :: (((eC (.str ("get" : Str))), (eC (.str ("field" : Str)))) :: (((eC (.str ("put" : Str))), (eC (.str ("field" : Str)))) :: (((eC (.str ("call" : Str))), (eC (.str ("method" : Str)))) :: []))))))))
  (sSeq (sSet 3 (eLst aNil))
  (sSeq (sFor (iRange1 (aCons (eN (f1 lenF) (aCons (eVar 1) aNil)) aNil)) (gtName 4) (sSeq (sSet 5 (e2 ixF (eVar 1) (eVar 4)))
  (sSeq (sIf (eAnd (e2 neF (eVar 5) (eTup aNil)) (e2 inF (e2 ixF (eVar 5) (eC (.int 0))) (eN (f1 lstF) (aCons (eVar 2) aNil)))) (sSeq (sSet 6 (eAnd (e2 eqF (eN (f1 lenF) (aCons (eVar 5) aNil)) (eC (.int 2))) (eAnd (e1 (isF tb_int to_int) (e2 ixF (eVar 5) (eC (.int 1)))) (eNot (e1 (isF tb_bool to_bool) (e2 ixF (eVar 5) (eC (.int 1))))))))
  (sSeq (sIf (eOr (eNot (eTru (eVar 6))) (eOr (eNot (eChain (iLt fun i j => decide (i ≤ j)) (iLt fun i j => decide (i < j)) (eC (.int 0)) (e2 ixF (eVar 5) (eC (.int 1))) (eN (f1 lenF) (aCons (eVar 0) aNil)))) (e2 neF (e2 ixF (e2 ixF (eVar 0) (e2 ixF (eVar 5) (eC (.int 1)))) (eC (.int 0))) (e2 ixF (eVar 2) (e2 ixF (eVar 5) (eC (.int 0))))))) (sRet (eTup (aCons (eC (.str ("pooled" : Str))) (aCons (eVar 4) aNil)))) sNext)
  (sSet 5 (e2 addF (eTup (aCons (e2 ixF (eVar 5) (eC (.int 0))) aNil)) (eSl slF (e2 ixF (eVar 0) (e2 ixF (eVar 5) (eC (.int 1)))) (e1 ptF (eC (.int 1))) (eC .non)))))) sNext)
  (sApp 3 (eVar 5)))))
  (sRet (eN (f1 tupF) (aCons (eVar 3) aNil))))))
def f__law_due : FF := fnD 7 b__law_due

def b_law : SF :=
  (sSeq (sNewO 1 (aCons (eVar 0) (aCons (eC (.int 0)) (aCons (eC (.int 2938)) (aCons (eC (.int 0)) aNil)))))
  (sSeq (sSet 2 (eLst (aCons (eTup (aCons (eC (.str ("class" : Str))) (aCons (eC (.str ("box" : Str))) aNil))) (aCons (eTup (aCons (eC (.str ("class" : Str))) (aCons (eC (.str ("top" : Str))) aNil))) (aCons (eTup (aCons (eC (.str ("field" : Str))) (aCons (eC (.str ("box" : Str))) (aCons (eC (.str ("x" : Str))) aNil)))) (aCons (eTup (aCons (eC (.str ("method" : Str))) (aCons (eC (.str ("red" : Str))) (aCons (eC (.str ("show" : Str))) aNil)))) (aCons (eTup (aCons (eC (.str ("class" : Str))) (aCons (eC (.str ("num" : Str))) aNil))) aNil)))))))
  (sSeq (sFor (iRange1 (aCons (eC (.int 3)) aNil)) (gtName 3) (sSeq (sSet 4 (eN (f1 tupF) (aCons (eLc [7] (iRange1 (aCons (eCall f__law_taken (aCons (eVar 1) (aCons (eC (.int 7)) aNil))) aNil)) (gtName 7) eYes (eCall f__law_pick (aCons (eVar 1) (aCons (eVar 2) aNil)))) aNil)))
  (sSeq (sPar [5, 6] (aCons (eDisp (((eC (.str ("class" : Str))), (eLst (aCons (eC (.str ("new" : Str))) (aCons (eC (.str ("cast" : Str))) (aCons (eC (.str ("is" : Str))) aNil))))) :: (((eC (.str ("field" : Str))), (eLst (aCons (eC (.str ("get" : Str))) (aCons (eC (.str ("put" : Str))) aNil)))) :: (((eC (.str ("method" : Str))), (eLst (aCons (eC (.str ("call" : Str))) aNil))) :: [])))) (aCons (eLst aNil) aNil)))
  (sSeq (sFor (iRange1 (aCons (eCall f__law_taken (aCons (eVar 1) (aCons (e2 ixF (eLst (aCons (eC (.int 6)) (aCons (eC (.int 21)) aNil))) (eCall f__law_taken (aCons (eVar 1) (aCons (eC (.int 2)) aNil)))) aNil))) aNil)) (gtName 7) (sIf (eAnd (e2 neF (eVar 4) (eTup aNil)) (e2 (iLt fun i j => decide (j < i)) (eCall f__law_taken (aCons (eVar 1) (aCons (eC (.int 6)) aNil))) (eC (.int 0)))) (sSeq (sSet 8 (eCall f__law_taken (aCons (eVar 1) (aCons (eN (f1 lenF) (aCons (eVar 4) aNil)) aNil))))
  (sApp 6 (eTup (aCons (eCall f__law_pick (aCons (eVar 1) (aCons (e2 ixF (eVar 5) (e2 ixF (e2 ixF (eVar 4) (eVar 8)) (eC (.int 0)))) aNil))) (aCons (eVar 8) aNil))))) (sIf (e2 (iLt fun i j => decide (j < i)) (eCall f__law_taken (aCons (eVar 1) (aCons (eC (.int 3)) aNil))) (eC (.int 0))) (sApp 6 (eCall f__law_pick (aCons (eVar 1) (aCons (eLst (aCons (eTup (aCons (eC (.str ("push" : Str))) (aCons (eC (.int 3)) aNil))) (aCons (eTup aNil) (aCons (eTup (aCons (eC (.str ("go" : Str))) (aCons (eC (.int 1)) (aCons (eC (.int 2)) aNil)))) (aCons (eTup (aCons (eC (.int 5)) aNil)) (aCons (eTup (aCons (eC .non) aNil)) (aCons (eTup (aCons (eC (.str ("give" : Str))) aNil)) (aCons (eTup (aCons (eC (.str ("New" : Str))) (aCons (eC (.int 0)) aNil))) aNil)))))))) aNil)))) (sSeq (sPar [9, 10] (aCons (eCall f__law_pick (aCons (eVar 1) (aCons (eLst (aCons (eC (.str ("new" : Str))) (aCons (eC (.str ("is" : Str))) (aCons (eC (.str ("get" : Str))) (aCons (eC (.str ("call" : Str))) aNil))))) aNil))) (aCons (eLst (aCons (eC (.int 0)) (aCons (eN (f1 lenF) (aCons (eVar 4) aNil)) (aCons (e1 negF (eC (.int 1))) (aCons (eC (.bl true)) (aCons (eC (.str ("box" : Str))) (aCons (eC .non) aNil))))))) aNil)))
  (sApp 6 (eCall f__law_pick (aCons (eVar 1) (aCons (eLst (aCons (eTup (aCons (eVar 9) (aCons (eCall f__law_pick (aCons (eVar 1) (aCons (eVar 10) aNil))) aNil))) (aCons (eTup (aCons (eVar 9) aNil)) (aCons (eTup (aCons (eVar 9) (aCons (eC (.int 0)) (aCons (eC (.int 0)) aNil)))) aNil)))) aNil))))))))
  (sSeq (sIf (eNot (eCall (f__law_alike 9) (aCons (eCall f__law_told (aCons (eVar 4) (aCons (eN (f1 tupF) (aCons (eVar 6) aNil)) aNil))) (aCons (eCall f__law_due (aCons (eVar 4) (aCons (eVar 6) aNil))) aNil)))) (sRet (eC (.bl false))) sNext)
  (sSeq (sSet 11 (eLst (aCons (eC .non) (aCons (eTup aNil) (aCons (eTup (aCons (eC (.str ("class" : Str))) aNil)) (aCons (eTup (aCons (eC (.str ("class" : Str))) (aCons (eC (.str ("box" : Str))) (aCons (eC (.str ("x" : Str))) aNil)))) (aCons (eTup (aCons (eC (.str ("field" : Str))) (aCons (eC (.str ("box" : Str))) aNil))) (aCons (eTup (aCons (eC (.str ("thing" : Str))) (aCons (eC (.str ("box" : Str))) aNil))) (aCons (eTup (aCons (eC (.str ("class" : Str))) (aCons (eC (.str ("Box" : Str))) aNil))) (aCons (eC (.int 3)) aNil))))))))))
  (sSeq (sSet 11 (e2 addF (eVar 11) (eLst (aCons (eTup (aCons (eC (.str ("class" : Str))) (aCons (eC (.str ("" : Str))) aNil))) (aCons (eTup (aCons (eC (.str ("class" : Str))) (aCons (eC (.str ("toolong" : Str))) aNil))) (aCons (eLst (aCons (eC (.str ("class" : Str))) (aCons (eC (.str ("box" : Str))) aNil))) (aCons (eTup (aCons (eC (.str ("class" : Str))) (aCons (eC .non) aNil))) (aCons (eTup (aCons (eC .non) (aCons (eC (.str ("box" : Str))) aNil))) aNil))))))))
  (sFor (iSeq (eVar 11)) (gtName 12) (sIf (e2 neF (eCall f__law_told (aCons (e2 addF (eVar 4) (eTup (aCons (eVar 12) (aCons (eC .non) aNil)))) (aCons (eTup aNil) aNil))) (eTup (aCons (eC (.str ("pool" : Str))) (aCons (eN (f1 lenF) (aCons (eVar 4) aNil)) aNil)))) (sRet (eC (.bl false))) sNext)))))))))
  (sSeq (sFor (iSeq (eLst (aCons (eC .non) (aCons (eN (f1 lstF) (aCons (eVar 2) aNil)) (aCons (e2 repTF (eTup (aCons (e2 ixF (eVar 2) (eC (.int 0))) aNil)) (eC (.int 100))) (aCons (eC (.int 3)) (aCons eNewK aNil))))))) (gtName 12) (sIf (e2 neF (eCall f__law_told (aCons (eVar 12) (aCons (eTup aNil) aNil))) (eTup (aCons (eC (.str ("pool" : Str))) (aCons (eC .non) aNil)))) (sRet (eC (.bl false))) sNext))
  (sSeq (sFor (iSeq (eLst (aCons (eC .non) (aCons (eLst (aCons (eTup (aCons (eC (.str ("push" : Str))) (aCons (eC (.int 3)) aNil))) aNil)) (aCons (e2 repTF (eTup (aCons (eTup (aCons (eC (.str ("push" : Str))) (aCons (eC (.int 3)) aNil))) aNil)) (eC (.int 21))) (aCons (eTup (aCons (eC .non) aNil)) (aCons (eTup (aCons (eTup (aCons (eC (.str ("push" : Str))) (aCons (eC (.int 3)) aNil))) (aCons (eLst (aCons (eC (.str ("push" : Str))) (aCons (eC (.int 3)) aNil))) aNil))) (aCons (eC (.str ("push" : Str))) (aCons (eC (.int 3)) aNil))))))))) (gtName 12) (sIf (e2 neF (eCall f__law_told (aCons (eTup aNil) (aCons (eVar 12) aNil))) (eTup (aCons (eC (.str ("pooled" : Str))) (aCons (eC .non) aNil)))) (sRet (eC (.bl false))) sNext))
  (sRet (e2 eqF (eN (f1 lenF) (aCons (eCall f__law_told (aCons (e2 repTF (eTup (aCons (e2 ixF (eVar 2) (eC (.int 0))) aNil)) (eC (.int 99))) (aCons (e2 repTF (eTup (aCons (eTup (aCons (eC (.str ("new" : Str))) (aCons (eC (.int 98)) aNil))) aNil)) (eC (.int 20))) aNil))) aNil)) (eC (.int 20)))))))))
def f_law : FF := fnD 13 b_law

end K38

set_option maxHeartbeats 4000000
namespace K38
open DL PySem PySem.Spec PyProof.Rows L2
def top (i : Nat) : Stmt := PySem.Challenge.pw_classhouse_k38_whole_codes_with_names_ag.main.body.getD i (.Pass ⟨0, 0, 0, 0⟩)
def inClass (st : Stmt) (i : Nat) : Stmt := (clsB st).getD i (.Pass ⟨0, 0, 0, 0⟩)
abbrev s_is_in : Stmt := top 7
def d_is_in : He.DefD := ⟨("is_in", none), "is_in", "is_in", defArgs s_is_in, defBody s_is_in, defScope s_is_in, [], []⟩
abbrev s_is_word : Stmt := top 8
def d_is_word : He.DefD := ⟨("is_word", none), "is_word", "is_word", defArgs s_is_word, defBody s_is_word, defScope s_is_word, [], []⟩
abbrev s_is_list : Stmt := top 9
def d_is_list : He.DefD := ⟨("is_list", none), "is_list", "is_list", defArgs s_is_list, defBody s_is_list, defScope s_is_list, [], []⟩
abbrev s_has_form : Stmt := top 17
def d_has_form : He.DefD := ⟨("has_form", none), "has_form", "has_form", defArgs s_has_form, defBody s_has_form, defScope s_has_form, [], []⟩
abbrev s_named : Stmt := top 18
def d_named : He.DefD := ⟨("named", none), "named", "named", defArgs s_named, defBody s_named, defScope s_named, [], []⟩
abbrev s_unpooled : Stmt := top 19
def d_unpooled : He.DefD := ⟨("unpooled", none), "unpooled", "unpooled", defArgs s_unpooled, defBody s_unpooled, defScope s_unpooled, [], []⟩
abbrev s__law_taken : Stmt := top 21
def d__law_taken : He.DefD := ⟨("_law_taken", none), "_law_taken", "_law_taken", defArgs s__law_taken, defBody s__law_taken, defScope s__law_taken, [], []⟩
abbrev s__law_pick : Stmt := top 22
def d__law_pick : He.DefD := ⟨("_law_pick", none), "_law_pick", "_law_pick", defArgs s__law_pick, defBody s__law_pick, defScope s__law_pick, [], []⟩
abbrev s__law_alike : Stmt := top 23
def d__law_alike : He.DefD := ⟨("_law_alike", none), "_law_alike", "_law_alike", defArgs s__law_alike, defBody s__law_alike, defScope s__law_alike, [], []⟩
abbrev s__law_told : Stmt := top 24
def d__law_told : He.DefD := ⟨("_law_told", none), "_law_told", "_law_told", defArgs s__law_told, defBody s__law_told, defScope s__law_told, [], []⟩
abbrev s__law_due : Stmt := top 25
def d__law_due : He.DefD := ⟨("_law_due", none), "_law_due", "_law_due", defArgs s__law_due, defBody s__law_due, defScope s__law_due, [], []⟩
abbrev s_law : Stmt := top 26
def d_law : He.DefD := ⟨("law", none), "law", "law", defArgs s_law, defBody s_law, defScope s_law, [], []⟩
abbrev s_BadPool : Stmt := inClass (top 2) 0
def d_BadPool : He.DefD := ⟨("BadPool", some "__init__"), "__init__", "BadPool.__init__", defArgs s_BadPool, defBody s_BadPool, defScope s_BadPool, [], []⟩
abbrev s_BadPooled : Stmt := inClass (top 3) 0
def d_BadPooled : He.DefD := ⟨("BadPooled", some "__init__"), "__init__", "BadPooled.__init__", defArgs s_BadPooled, defBody s_BadPooled, defScope s_BadPooled, [], []⟩
def fn : List He.DefD := [d_is_in, d_is_word, d_is_list, d_has_form, d_named, d_unpooled, d__law_taken, d__law_pick, d__law_alike, d__law_told, d__law_due, d_law, d_BadPool, d_BadPooled]
def fa : List He.Fa := [.free "isinstance", .free "int", .free "bool", .glo "is_in", .free "str", .free "len", .free "all", .str "LETTERS" ("abcdefghijklmnopqrstuvwxyz" : Str), .glo "is_word", .free "tuple", .glo "is_list", .glo "SIZES", .glo "has_form", .glo "ENTRIES", .glo "named", .free "enumerate", .int "MOST_ENTRIES" 99, .int "MOST_STEPS" 20, .glo "unpooled", .glo "_law_taken", .glo "_law_pick", .free "list", .free "range", .glo "_law_alike", .glo "BadPool", .exm "BadPool" "BadPool" true, .exm "BadPooled" "BadPool" false, .glo "BadPooled", .exm "BadPool" "BadPooled" false, .exm "BadPooled" "BadPooled" true, .noat "BadPool" "index", .noat "BadPooled" "step", .glo "_law_told", .glo "_law_due", .glo "law", .meth "BadPool" "__init__", .meth "BadPooled" "__init__"]
def ts : List He.Tab := [(fun K => He.ga K "SIZES", ["class", "field", "method"]), (fun K => He.ga K "ENTRIES", ["new", "cast", "is", "get", "put", "call"])]
def bs : List (PySem.W.Frag → Bool) := [fun K => kdB K (He.ga K "SIZES") tab_SIZES, fun K => kdB K (He.ga K "ENTRIES") tab_ENTRIES, fun K => xfB K (He.ga K "BadPool"), fun K => xfB K (He.ga K "BadPooled"), fun K => oexB K (He.ga K "BadPool"), fun K => decide (PySem.W.typeIn K (.ref (He.ma K (He.ga K "BadPool") "__init__")) = some (.type "function")), fun K => oexB K (He.ga K "BadPooled"), fun K => decide (PySem.W.typeIn K (.ref (He.ma K (He.ga K "BadPooled") "__init__")) = some (.type "function"))]
theorem is_int {K : PySem.W.Frag} : IsK K [.type "int"] tb_int to_int := isK_ty (ns := ["int"]) (by decide +kernel) fun _ _ e => by cases e
theorem is_bool {K : PySem.W.Frag} : IsK K [.type "bool"] tb_bool to_bool := isK_ty (ns := ["bool"]) (by decide +kernel) fun _ _ e => by cases e
theorem is_str {K : PySem.W.Frag} : IsK K [.type "str"] tb_str to_str := isK_ty (ns := ["str"]) (by decide +kernel) fun _ _ e => by cases e
theorem is_tuple {K : PySem.W.Frag} : IsK K [.type "tuple"] tb_tuple to_tuple := isK_ty (ns := ["tuple"]) (by decide +kernel) fun _ _ e => by cases e
theorem is_tuple_list {K : PySem.W.Frag} : IsK K [.type "tuple", .type "list"] tb_tuple_list to_tuple_list := isK_ty (ns := ["tuple", "list"]) (by decide +kernel) fun _ _ e => by cases e
theorem is_list {K : PySem.W.Frag} : IsK K [.type "list"] tb_list to_list := isK_ty (ns := ["list"]) (by decide +kernel) fun _ _ e => by cases e
theorem sc_BadPool : FnScope ["self", "index"] ["self", "index"] (defScope s_BadPool) := ⟨rfl, rfl, rfl, by decide +kernel, rfl, by decide +kernel, by decide +kernel⟩
theorem xok_BadPool {P : Program} {w : World} {K : PySem.W.Frag} {h : Heap} {mg : Str → Option Value} {base : Heap} (kx : K.In h) (G : h.Ns mainGlobals mg) (c : SaysX fa fn ts bs w K) : Xok P w K mg base "BadPool" ["index"] := by
  obtain ⟨fd, F⟩ := c.d.def_ 12 (d := d_BadPool) rfl
  have b : Binds K fd ["self", "index"] [] := F.bindsN fun _ _ _ _ _ _ us hl => match us, hl with | [_, _], _ => rfl
  have nd := sc_BadPool.nd
  have nf_index := He.eqO_ok (c.d.fact 30 (f := .noat "BadPool" "index") rfl)
  have fi := He.eqO_ok (He.ba (c.d.fact 35 (f := .meth "BadPool" "__init__") rfl)).1
  refine ⟨⟨He.ma K (He.ga K "BadPool") "__init__", fd, oexB_ok (c.b 4 rfl), fi, of_decide_eq_true (c.b 5 rfl), F.ok sc_BadPool (fun vs H Q E hh => ?_) (fun cdv A outer s H vs Q E hr hh => ⟨_, PSs.nox ?_, init1 (by decide) hh (fun _ _ q => q)⟩), b⟩, ?_, He.glo_ok kx G (c.d.fact 24 (f := .glo "BadPool") rfl)⟩
  · obtain ⟨a, xs, C, rfl, hl, _⟩ := hh; simp [hl]
  · exact (pss_one (ps_ost (pv 0) (pv 1)))
  · intro f hf
    simp only [List.mem_cons, List.not_mem_nil, or_false] at hf
    rcases hf with rfl
    · exact nf_index
theorem sc_BadPooled : FnScope ["self", "step"] ["self", "step"] (defScope s_BadPooled) := ⟨rfl, rfl, rfl, by decide +kernel, rfl, by decide +kernel, by decide +kernel⟩
theorem xok_BadPooled {P : Program} {w : World} {K : PySem.W.Frag} {h : Heap} {mg : Str → Option Value} {base : Heap} (kx : K.In h) (G : h.Ns mainGlobals mg) (c : SaysX fa fn ts bs w K) : Xok P w K mg base "BadPooled" ["step"] := by
  obtain ⟨fd, F⟩ := c.d.def_ 13 (d := d_BadPooled) rfl
  have b : Binds K fd ["self", "step"] [] := F.bindsN fun _ _ _ _ _ _ us hl => match us, hl with | [_, _], _ => rfl
  have nd := sc_BadPooled.nd
  have nf_step := He.eqO_ok (c.d.fact 31 (f := .noat "BadPooled" "step") rfl)
  have fi := He.eqO_ok (He.ba (c.d.fact 36 (f := .meth "BadPooled" "__init__") rfl)).1
  refine ⟨⟨He.ma K (He.ga K "BadPooled") "__init__", fd, oexB_ok (c.b 6 rfl), fi, of_decide_eq_true (c.b 7 rfl), F.ok sc_BadPooled (fun vs H Q E hh => ?_) (fun cdv A outer s H vs Q E hr hh => ⟨_, PSs.nox ?_, init1 (by decide) hh (fun _ _ q => q)⟩), b⟩, ?_, He.glo_ok kx G (c.d.fact 27 (f := .glo "BadPooled") rfl)⟩
  · obtain ⟨a, xs, C, rfl, hl, _⟩ := hh; simp [hl]
  · exact (pss_one (ps_ost (pv 0) (pv 1)))
  · intro f hf
    simp only [List.mem_cons, List.not_mem_nil, or_false] at hf
    rcases hf with rfl
    · exact nf_step
theorem sc_is_in : FnScope ["value", "least", "most"] ["value", "least", "most"] (defScope s_is_in) := ⟨rfl, rfl, rfl, by decide +kernel, rfl, by decide +kernel, by decide +kernel⟩
theorem ok_is_in {P : Program} {w : World} {K : PySem.W.Frag} {h : Heap} {mg : Str → Option Value} {base : Heap} (kx : K.In h) (G : h.Ns mainGlobals mg) (c : SaysX fa fn ts bs w K) : Fok P w K mg base "is_in" 1 ["value", "least", "most"] f_is_in := by
  have h_isinstance := He.free_ok kx G (c.d.fact 0 (f := .free "isinstance") rfl)
  have h_int := He.free_ok kx G (c.d.fact 1 (f := .free "int") rfl)
  have h_bool := He.free_ok kx G (c.d.fact 2 (f := .free "bool") rfl)
  obtain ⟨fd, F⟩ := c.d.def_ 0 (d := d_is_in) rfl
  have b : Binds K fd ["value", "least", "most"] [] := F.bindsN fun _ _ _ _ _ _ us hl => match us, hl with | [_, _, _], _ => rfl
  have nd := sc_is_in.nd
  refine ⟨fd, fn_dl (k := 0) (O' := []) F sc_is_in (by decide) fun cdv A outer s H E hr => ?_, b, F.kp, He.glo_ok kx G (c.d.fact 3 (f := .glo "is_in") rfl)⟩
  have hu64 := hu_64 hr
  have hu := hu_65 hr
  have tk := takes_of (X := cxOf (L2.CX P w) P w K mg base ["value", "least", "most"] "is_in" (defScope s_is_in) (He.ga K "is_in") cdv A outer s H E) rfl rfl rfl rfl
  have ps := passes_of (X := cxOf (L2.CX P w) P w K mg base ["value", "least", "most"] "is_in" (defScope s_is_in) (He.ga K "is_in") cdv A outer s H E) rfl
  exact (dss_one (ds_ret (de_and (de_isi (is_int) (dv 0) (pe_bltn (by rfl) h_int (by rfl) (by rfl)) (.ty _) h_isinstance) (de_and (de_not (de_isi (is_bool) (dv 0) (pe_bltn (by rfl) h_bool (by rfl) (by rfl)) (.ty _) h_isinstance)) (de_one (de_chain (op_led) (op_led) (dv 1) (dv 0) (dv 2)))))))
theorem sc_is_word : FnScope ["value", "sign"] ["value"] (defScope s_is_word) := ⟨rfl, rfl, rfl, by decide +kernel, rfl, by decide +kernel, by decide +kernel⟩
theorem ok_is_word {P : Program} {w : World} {K : PySem.W.Frag} {h : Heap} {mg : Str → Option Value} {base : Heap} (kx : K.In h) (G : h.Ns mainGlobals mg) (c : SaysX fa fn ts bs w K) : Fok P w K mg base "is_word" 1 ["value"] f_is_word := by
  have h_isinstance := He.free_ok kx G (c.d.fact 0 (f := .free "isinstance") rfl)
  have h_str := He.free_ok kx G (c.d.fact 4 (f := .free "str") rfl)
  have h_len := He.free_ok kx G (c.d.fact 5 (f := .free "len") rfl)
  have h_all := He.free_ok kx G (c.d.fact 6 (f := .free "all") rfl)
  have g_LETTERS := He.str_ok kx G (c.d.fact 7 (f := .str "LETTERS" ("abcdefghijklmnopqrstuvwxyz" : Str)) rfl)
  obtain ⟨fd, F⟩ := c.d.def_ 1 (d := d_is_word) rfl
  have b : Binds K fd ["value"] [] := F.bindsN fun _ _ _ _ _ _ us hl => match us, hl with | [_], _ => rfl
  have nd := sc_is_word.nd
  refine ⟨fd, fn_dl (k := 0) (O' := []) F sc_is_word (by decide) fun cdv A outer s H E hr => ?_, b, F.kp, He.glo_ok kx G (c.d.fact 8 (f := .glo "is_word") rfl)⟩
  have hu64 := hu_64 hr
  have hu := hu_65 hr
  have tk := takes_of (X := cxOf (L2.CX P w) P w K mg base ["value", "sign"] "is_word" (defScope s_is_word) (He.ga K "is_word") cdv A outer s H E) rfl rfl rfl rfl
  have ps := passes_of (X := cxOf (L2.CX P w) P w K mg base ["value", "sign"] "is_word" (defScope s_is_word) (He.ga K "is_word") cdv A outer s H E) rfl
  exact (dss_one (ds_ret (de_and (de_isi (is_str) (dv 0) (pe_bltn (by rfl) h_str (by rfl) (by rfl)) (.ty _) h_isinstance) (de_and (de_chain (op_led) (op_led) de_int (de_callB cr_len (by rfl) h_len (dab_cons (dv 0) dab_nil)) de_int) (de_one (de_callB (cr_allD rfl) (by rfl) h_all (dab_cons (de_lc nd (blkOk_by (own := [(("sign" : Str), 1)]) (by kernel_rfl)) (di_str (dv 0)) (gok_name 1) (fun _ _ _ _ _ => ((dg_name (O := []) 1 nd)).pg) town_name (fun _ _ _ _ _ => dcs_nil) (fun _ _ _ _ _ => (de_cmp (op_sign) (dv 1) (de_gstr g_LETTERS)))) dab_nil)))))))
theorem sc_is_list : FnScope ["value", "most"] ["value", "most"] (defScope s_is_list) := ⟨rfl, rfl, rfl, by decide +kernel, rfl, by decide +kernel, by decide +kernel⟩
theorem ok_is_list {P : Program} {w : World} {K : PySem.W.Frag} {h : Heap} {mg : Str → Option Value} {base : Heap} (kx : K.In h) (G : h.Ns mainGlobals mg) (c : SaysX fa fn ts bs w K) : Fok P w K mg base "is_list" 1 ["value", "most"] f_is_list := by
  have h_isinstance := He.free_ok kx G (c.d.fact 0 (f := .free "isinstance") rfl)
  have h_tuple := He.free_ok kx G (c.d.fact 9 (f := .free "tuple") rfl)
  have h_len := He.free_ok kx G (c.d.fact 5 (f := .free "len") rfl)
  obtain ⟨fd, F⟩ := c.d.def_ 2 (d := d_is_list) rfl
  have b : Binds K fd ["value", "most"] [] := F.bindsN fun _ _ _ _ _ _ us hl => match us, hl with | [_, _], _ => rfl
  have nd := sc_is_list.nd
  refine ⟨fd, fn_dl (k := 0) (O' := []) F sc_is_list (by decide) fun cdv A outer s H E hr => ?_, b, F.kp, He.glo_ok kx G (c.d.fact 10 (f := .glo "is_list") rfl)⟩
  have hu64 := hu_64 hr
  have hu := hu_65 hr
  have tk := takes_of (X := cxOf (L2.CX P w) P w K mg base ["value", "most"] "is_list" (defScope s_is_list) (He.ga K "is_list") cdv A outer s H E) rfl rfl rfl rfl
  have ps := passes_of (X := cxOf (L2.CX P w) P w K mg base ["value", "most"] "is_list" (defScope s_is_list) (He.ga K "is_list") cdv A outer s H E) rfl
  exact (dss_one (ds_ret (de_and (de_isi (is_tuple) (dv 0) (pe_bltn (by rfl) h_tuple (by rfl) (by rfl)) (.ty _) h_isinstance) (de_one (de_cmp (op_led) (de_callB cr_len (by rfl) h_len (dab_cons (dv 0) dab_nil)) (dv 1))))))
theorem sc_has_form : FnScope ["value", "word"] ["value"] (defScope s_has_form) := ⟨rfl, rfl, rfl, by decide +kernel, rfl, by decide +kernel, by decide +kernel⟩
theorem ok_has_form {P : Program} {w : World} {K : PySem.W.Frag} {h : Heap} {mg : Str → Option Value} {base : Heap} (kx : K.In h) (G : h.Ns mainGlobals mg) (c : SaysX fa fn ts bs w K) : Fok P w K mg base "has_form" 2 ["value"] f_has_form := by
  have o_is_word := ok_is_word (P := P) (w := w) (base := base) kx G c
  have h_isinstance := He.free_ok kx G (c.d.fact 0 (f := .free "isinstance") rfl)
  have h_tuple := He.free_ok kx G (c.d.fact 9 (f := .free "tuple") rfl)
  have h_str := He.free_ok kx G (c.d.fact 4 (f := .free "str") rfl)
  have h_len := He.free_ok kx G (c.d.fact 5 (f := .free "len") rfl)
  have h_all := He.free_ok kx G (c.d.fact 6 (f := .free "all") rfl)
  have kt_SIZES : KTab K w mg "SIZES" tab_SIZES := ⟨c.t.tab 0 rfl, c.b 0 rfl, He.glo_ok kx G (c.d.fact 11 (f := .glo "SIZES") rfl)⟩
  obtain ⟨fd, F⟩ := c.d.def_ 3 (d := d_has_form) rfl
  have b : Binds K fd ["value"] [] := F.bindsN fun _ _ _ _ _ _ us hl => match us, hl with | [_], _ => rfl
  have nd := sc_has_form.nd
  refine ⟨fd, fn_dl (k := 1) (O' := []) F sc_has_form (by decide) fun cdv A outer s H E hr => ?_, b, F.kp, He.glo_ok kx G (c.d.fact 12 (f := .glo "has_form") rfl)⟩
  have hu64 := hu_64 hr
  have hu := hu_65 hr
  have tk := takes_of (X := cxOf (L2.CX P w) P w K mg base ["value", "word"] "has_form" (defScope s_has_form) (He.ga K "has_form") cdv A outer s H E) rfl rfl rfl rfl
  have ps := passes_of (X := cxOf (L2.CX P w) P w K mg base ["value", "word"] "has_form" (defScope s_has_form) (He.ga K "has_form") cdv A outer s H E) rfl
  exact (dss_cons (ds_if (O' := []) (dt_bool (dw_or (dt_not (dt_val (de_isi (is_tuple) (dv 0) (pe_bltn (by rfl) h_tuple (by rfl) (by rfl)) (.ty _) h_isinstance))) (dw_or (dt_cmp (op_eqd hu64) (dv 0) (de_tup da_nil)) (dw_or1 (dt_not (dt_val (de_isi (is_str) (de_sub hu64 (dv 0) de_int) (pe_bltn (by rfl) h_str (by rfl) (by rfl)) (.ty _) h_isinstance))))))) (dss_one (ds_ret de_bl)) dss_nil)
  (dss_one (ds_ret (de_and (de_cmp (op_eqd hu64) (de_kget kt_SIZES (de_sub hu64 (dv 0) de_int) de_int) (de_callB cr_len (by rfl) h_len (dab_cons (dv 0) dab_nil))) (de_one (de_callB (cr_allD rfl) (by rfl) h_all (dab_cons (de_lc nd (blkOk_by (own := [(("word" : Str), 1)]) (by kernel_rfl)) (di_seq (de_sl (dv 0) (do_some de_int) do_none)) (gok_name 1) (fun _ _ _ _ _ => ((dg_name (O := []) 1 nd)).pg) town_name (fun _ _ _ _ _ => dcs_nil) (fun _ _ _ _ _ => (de_fn o_is_word (hr.mono (by decide)) L2.takes0 (da_cons (dv 1) da_nil) (aCons_len aNil_len)))) dab_nil)))))))
theorem sc_named : FnScope ["entries", "step", "entry"] ["entries", "step"] (defScope s_named) := ⟨rfl, rfl, rfl, by decide +kernel, rfl, by decide +kernel, by decide +kernel⟩
theorem ok_named {P : Program} {w : World} {K : PySem.W.Frag} {h : Heap} {mg : Str → Option Value} {base : Heap} (kx : K.In h) (G : h.Ns mainGlobals mg) (c : SaysX fa fn ts bs w K) : Fok P w K mg base "named" 2 ["entries", "step"] f_named := by
  have o_is_in := ok_is_in (P := P) (w := w) (base := base) kx G c
  have h_len := He.free_ok kx G (c.d.fact 5 (f := .free "len") rfl)
  have kt_ENTRIES : KTab K w mg "ENTRIES" tab_ENTRIES := ⟨c.t.tab 1 rfl, c.b 1 rfl, He.glo_ok kx G (c.d.fact 13 (f := .glo "ENTRIES") rfl)⟩
  obtain ⟨fd, F⟩ := c.d.def_ 4 (d := d_named) rfl
  have b : Binds K fd ["entries", "step"] [] := F.bindsN fun _ _ _ _ _ _ us hl => match us, hl with | [_, _], _ => rfl
  have nd := sc_named.nd
  refine ⟨fd, fn_dl (k := 1) (O' := []) F sc_named (by decide) fun cdv A outer s H E hr => ?_, b, F.kp, He.glo_ok kx G (c.d.fact 14 (f := .glo "named") rfl)⟩
  have hu64 := hu_64 hr
  have hu := hu_65 hr
  have tk := takes_of (X := cxOf (L2.CX P w) P w K mg base ["entries", "step", "entry"] "named" (defScope s_named) (He.ga K "named") cdv A outer s H E) rfl rfl rfl rfl
  have ps := passes_of (X := cxOf (L2.CX P w) P w K mg base ["entries", "step", "entry"] "named" (defScope s_named) (He.ga K "named") cdv A outer s H E) rfl
  exact (dss_cons (ds_if (O' := []) (dt_bool (dw_or (dt_cmp (op_ned hu64) (de_callB cr_len (by rfl) h_len (dab_cons (dv 1) dab_nil)) de_int) (dw_or1 (dt_not (dt_val (de_fn o_is_in (hr.mono (by decide)) tk (da_cons (de_sub hu64 (dv 1) de_int) (da_cons de_int (da_cons (de_bin op_subd (de_callB cr_len (by rfl) h_len (dab_cons (dv 0) dab_nil)) de_int) da_nil))) (aCons_len (aCons_len (aCons_len aNil_len))))))))) (dss_one (ds_ret de_non)) dss_nil)
  (dss_cons (ds_set 2 (de_sub hu64 (dv 0) (de_sub hu64 (dv 1) de_int)) nd)
  (dss_one (ds_ret (de_ifx (k := .e) (dt_cmp (op_eqd hu64) (de_sub hu64 (dv 2) de_int) (de_ksub kt_ENTRIES (de_sub hu64 (dv 1) de_int))) (de_tup (da_cons (de_sub hu64 (dv 1) de_int) (da_star (de_sl (dv 2) (do_some de_int) do_none) da_nil))) de_non)))))
theorem sc_unpooled : FnScope ["entries", "code", "index", "entry", "found", "step"] ["entries", "code"] (defScope s_unpooled) := ⟨rfl, rfl, rfl, by decide +kernel, rfl, by decide +kernel, by decide +kernel⟩
theorem ok_unpooled {P : Program} {w : World} {K : PySem.W.Frag} {h : Heap} {mg : Str → Option Value} {base : Heap} (kx : K.In h) (G : h.Ns mainGlobals mg) (c : SaysX fa fn ts bs w K) : Fok P w K mg base "unpooled" 3 ["entries", "code"] f_unpooled := by
  have o_is_list := ok_is_list (P := P) (w := w) (base := base) kx G c
  have o_has_form := ok_has_form (P := P) (w := w) (base := base) kx G c
  have o_named := ok_named (P := P) (w := w) (base := base) kx G c
  have h_enumerate := He.free_ok kx G (c.d.fact 15 (f := .free "enumerate") rfl)
  have h_all := He.free_ok kx G (c.d.fact 6 (f := .free "all") rfl)
  have h_isinstance := He.free_ok kx G (c.d.fact 0 (f := .free "isinstance") rfl)
  have h_tuple := He.free_ok kx G (c.d.fact 9 (f := .free "tuple") rfl)
  have h_str := He.free_ok kx G (c.d.fact 4 (f := .free "str") rfl)
  have g_MOST_ENTRIES := He.int_ok kx G (c.d.fact 16 (f := .int "MOST_ENTRIES" 99) rfl)
  have g_MOST_STEPS := He.int_ok kx G (c.d.fact 17 (f := .int "MOST_STEPS" 20) rfl)
  have kt_ENTRIES : KTab K w mg "ENTRIES" tab_ENTRIES := ⟨c.t.tab 1 rfl, c.b 1 rfl, He.glo_ok kx G (c.d.fact 13 (f := .glo "ENTRIES") rfl)⟩
  have x_BadPool := xok_BadPool (P := P) (w := w) (base := base) kx G c
  have x_BadPooled := xok_BadPooled (P := P) (w := w) (base := base) kx G c
  obtain ⟨fd, F⟩ := c.d.def_ 5 (d := d_unpooled) rfl
  have b : Binds K fd ["entries", "code"] [] := F.bindsN fun _ _ _ _ _ _ us hl => match us, hl with | [_, _], _ => rfl
  have nd := sc_unpooled.nd
  refine ⟨fd, fn_dl (k := 2) (O' := []) F sc_unpooled (by decide) fun cdv A outer s H E hr => ?_, b, F.kp, He.glo_ok kx G (c.d.fact 18 (f := .glo "unpooled") rfl)⟩
  have hu64 := hu_64 hr
  have hu := hu_65 hr
  have tk := takes_of (X := cxOf (L2.CX P w) P w K mg base ["entries", "code", "index", "entry", "found", "step"] "unpooled" (defScope s_unpooled) (He.ga K "unpooled") cdv A outer s H E) rfl rfl rfl rfl
  have ps := passes_of (X := cxOf (L2.CX P w) P w K mg base ["entries", "code", "index", "entry", "found", "step"] "unpooled" (defScope s_unpooled) (He.ga K "unpooled") cdv A outer s H E) rfl
  exact (dss_cons (ds_if (O' := []) (dt_not (dt_val (de_fn o_is_list (hr.mono (by decide)) tk (da_cons (dv 0) (da_cons (de_gint g_MOST_ENTRIES) da_nil)) (aCons_len (aCons_len aNil_len))))) (dss_one (ds_raise x_BadPool (hr.mono (by decide)) tk (da_cons de_non da_nil) (aCons_len aNil_len))) dss_nil)
  (dss_cons (ds_for ps (di_en (da_cons (dv 0) da_nil) h_enumerate) (dg_tup (dgs_cons (dg_name 2 nd) (dgs_cons (dg_name 3 nd) dgs_nil))) (dss_one (ds_if (O' := []) (dt_not (dt_val (de_fn o_has_form (hr.mono (by decide)) tk (da_cons (dv 3) da_nil) (aCons_len aNil_len)))) (dss_one (ds_raise x_BadPool (hr.mono (by decide)) tk (da_cons (dv 2) da_nil) (aCons_len aNil_len))) dss_nil)))
  (dss_cons (ds_if (O' := []) (dt_bool (dw_or (dt_not (dt_val (de_fn o_is_list (hr.mono (by decide)) tk (da_cons (dv 1) (da_cons (de_gint g_MOST_STEPS) da_nil)) (aCons_len (aCons_len aNil_len))))) (dw_or1 (dt_not (dt_val (de_callB (cr_allD rfl) (by rfl) h_all (dab_cons (de_lc nd (blkOk_by (own := [(("step" : Str), 5)]) (by kernel_rfl)) (di_seq (dv 1)) (gok_name 5) (fun _ _ _ _ _ => ((dg_name (O := []) 5 nd)).pg) town_name (fun _ _ _ _ _ => dcs_nil) (fun _ _ _ _ _ => (de_isi (is_tuple) (dv 5) (pe_bltn (by rfl) h_tuple (by rfl) (by rfl)) (.ty _) h_isinstance))) dab_nil))))))) (dss_one (ds_raise x_BadPooled (hr.mono (by decide)) tk (da_cons de_non da_nil) (aCons_len aNil_len))) dss_nil)
  (dss_cons (ds_own 4 (de_lst da_nil) nd)
  (dss_cons (ds_for ps (di_en (da_cons (dv 1) da_nil) h_enumerate) (dg_tup (dgs_cons (dg_name 2 nd) (dgs_cons (dg_name 5 nd) dgs_nil))) (dss_cons (ds_if (O' := [4]) (dt_bool (dw_and (dt_cmp (op_ned hu64) (dv 5) (de_tup da_nil)) (dw_and (dt_val (de_isi (is_str) (de_sub hu64 (dv 5) de_int) (pe_bltn (by rfl) h_str (by rfl) (by rfl)) (.ty _) h_isinstance)) (dw_and1 (dt_kin kt_ENTRIES (de_sub hu64 (dv 5) de_int)))))) (dss_one (ds_set 5 (de_fn o_named (hr.mono (by decide)) tk (da_cons (dv 0) (da_cons (dv 5) da_nil)) (aCons_len (aCons_len aNil_len))) nd)) dss_nil)
  (dss_cons (ds_if (O' := [4]) (dt_isN (dv 5)) (dss_one (ds_raise x_BadPooled (hr.mono (by decide)) tk (da_cons (dv 2) da_nil) (aCons_len aNil_len))) dss_nil)
  (dss_one (ds_app 4 (dv 5))))))
  (dss_one (ds_ret (de_callTy cr_tup (by rfl) h_tuple (dab_cons (dvb 4) dab_nil)))))))))
theorem sc__law_taken : FnScope ["_law_row", "_law_many", "_law_found", "_law_cell"] ["_law_row", "_law_many"] (defScope s__law_taken) := ⟨rfl, rfl, rfl, by decide +kernel, rfl, by decide +kernel, by decide +kernel⟩
theorem ok__law_taken {P : Program} {w : World} {K : PySem.W.Frag} {h : Heap} {mg : Str → Option Value} {base : Heap} (kx : K.In h) (G : h.Ns mainGlobals mg) (c : SaysX fa fn ts bs w K) : Fok P w K mg base "_law_taken" 1 ["_law_row", "_law_many"] f__law_taken := by
  have h_int := He.free_ok kx G (c.d.fact 1 (f := .free "int") rfl)
  have h_len := He.free_ok kx G (c.d.fact 5 (f := .free "len") rfl)
  obtain ⟨fd, F⟩ := c.d.def_ 6 (d := d__law_taken) rfl
  have b : Binds K fd ["_law_row", "_law_many"] [] := F.bindsN fun _ _ _ _ _ _ us hl => match us, hl with | [_, _], _ => rfl
  have nd := sc__law_taken.nd
  refine ⟨fd, fn_dl (k := 0) (O' := []) F sc__law_taken (by decide) fun cdv A outer s H E hr => ?_, b, F.kp, He.glo_ok kx G (c.d.fact 19 (f := .glo "_law_taken") rfl)⟩
  have hu64 := hu_64 hr
  have hu := hu_65 hr
  have tk := takes_of (X := cxOf (L2.CX P w) P w K mg base ["_law_row", "_law_many", "_law_found", "_law_cell"] "_law_taken" (defScope s__law_taken) (He.ga K "_law_taken") cdv A outer s H E) rfl rfl rfl rfl
  have ps := passes_of (X := cxOf (L2.CX P w) P w K mg base ["_law_row", "_law_many", "_law_found", "_law_cell"] "_law_taken" (defScope s__law_taken) (He.ga K "_law_taken") cdv A outer s H E) rfl
  exact (dss_cons (ds_if (O' := []) (dt_cmp (op_gtd) (de_sub hu64 (dv 0) de_int) de_int) (dss_cons (ds_set 2 (de_bin op_modd (de_callTy cr_int (by rfl) h_int (dab_cons (de_sub hu64 (dv 0) de_int) dab_nil)) (dv 1)) nd)
  (dss_cons (ds_putO (dv 0) de_int (de_bin op_divd (de_sub hu64 (dv 0) de_int) (dv 1)))
  (dss_one (ds_ret (dv 2))))) dss_nil)
  (dss_cons (ds_putO (dv 0) de_int (de_bin op_addd (de_sub hu64 (dv 0) de_int) de_int))
  (dss_cons (ds_if (O' := []) (dt_cmp (op_gtd) (de_sub hu64 (dv 0) de_int) (de_callB cr_len (by rfl) h_len (dab_cons (de_sub hu64 (dv 0) de_int) dab_nil))) (dss_cons (ds_putO (dv 0) de_int (de_bin op_modd (de_callTy cr_int (by rfl) h_int (dab_cons (de_bin op_addd (de_bin op_muld (de_sub hu64 (dv 0) de_int) de_int) de_int) dab_nil)) de_int))
  (dss_one (ds_ret (de_bin op_modd (de_callTy cr_int (by rfl) h_int (dab_cons (de_bin op_divd (de_sub hu64 (dv 0) de_int) de_int) dab_nil)) (dv 1))))) dss_nil)
  (dss_cons (ds_set 3 (de_sub hu64 (de_sub hu64 (dv 0) de_int) (de_bin op_subd (de_sub hu64 (dv 0) de_int) de_int)) nd)
  (dss_cons (ds_putO (dv 0) de_int (de_bin op_modd (de_callTy cr_int (by rfl) h_int (dab_cons (de_bin op_addd (de_bin op_addd (de_bin op_muld (de_sub hu64 (dv 0) de_int) de_int) (dv 3)) de_int) dab_nil)) de_int))
  (dss_cons (ds_if (O' := []) (dt_cmp (op_ged) (dv 3) (de_bin op_powd de_int de_int)) (dss_one (ds_putO (dv 0) de_int (de_bin op_divd (dv 3) (dv 1)))) dss_nil)
  (dss_one (ds_ret (de_bin op_modd (de_callTy cr_int (by rfl) h_int (dab_cons (dv 3) dab_nil)) (dv 1))))))))))
theorem sc__law_pick : FnScope ["_law_row", "_law_things"] ["_law_row", "_law_things"] (defScope s__law_pick) := ⟨rfl, rfl, rfl, by decide +kernel, rfl, by decide +kernel, by decide +kernel⟩
theorem ok__law_pick {P : Program} {w : World} {K : PySem.W.Frag} {h : Heap} {mg : Str → Option Value} {base : Heap} (kx : K.In h) (G : h.Ns mainGlobals mg) (c : SaysX fa fn ts bs w K) : Fok P w K mg base "_law_pick" 2 ["_law_row", "_law_things"] f__law_pick := by
  have o__law_taken := ok__law_taken (P := P) (w := w) (base := base) kx G c
  have h_len := He.free_ok kx G (c.d.fact 5 (f := .free "len") rfl)
  obtain ⟨fd, F⟩ := c.d.def_ 7 (d := d__law_pick) rfl
  have b : Binds K fd ["_law_row", "_law_things"] [] := F.bindsN fun _ _ _ _ _ _ us hl => match us, hl with | [_, _], _ => rfl
  have nd := sc__law_pick.nd
  refine ⟨fd, fn_dl (k := 1) (O' := []) F sc__law_pick (by decide) fun cdv A outer s H E hr => ?_, b, F.kp, He.glo_ok kx G (c.d.fact 20 (f := .glo "_law_pick") rfl)⟩
  have hu64 := hu_64 hr
  have hu := hu_65 hr
  have tk := takes_of (X := cxOf (L2.CX P w) P w K mg base ["_law_row", "_law_things"] "_law_pick" (defScope s__law_pick) (He.ga K "_law_pick") cdv A outer s H E) rfl rfl rfl rfl
  have ps := passes_of (X := cxOf (L2.CX P w) P w K mg base ["_law_row", "_law_things"] "_law_pick" (defScope s__law_pick) (He.ga K "_law_pick") cdv A outer s H E) rfl
  exact (dss_one (ds_ret (de_sub hu64 (dv 1) (de_fn o__law_taken (hr.mono (by decide)) tk (da_cons (dv 0) (da_cons (de_callB cr_len (by rfl) h_len (dab_cons (dv 1) dab_nil)) da_nil)) (aCons_len (aCons_len aNil_len))))))
theorem sc__law_alike : FnScope ["_law_found", "_law_due_here", "_law_k"] ["_law_found", "_law_due_here"] (defScope s__law_alike) := ⟨rfl, rfl, rfl, by decide +kernel, rfl, by decide +kernel, by decide +kernel⟩
theorem ok__law_alike {P : Program} {w : World} {K : PySem.W.Frag} {h : Heap} {mg : Str → Option Value} {base : Heap} (kx : K.In h) (G : h.Ns mainGlobals mg) (c : SaysX fa fn ts bs w K) : ∀ n, Fok P w K mg base "_law_alike" (1 + n) ["_law_found", "_law_due_here"] (f__law_alike n) := by
  have h_isinstance := He.free_ok kx G (c.d.fact 0 (f := .free "isinstance") rfl)
  have h_tuple := He.free_ok kx G (c.d.fact 9 (f := .free "tuple") rfl)
  have h_list := He.free_ok kx G (c.d.fact 21 (f := .free "list") rfl)
  have h_len := He.free_ok kx G (c.d.fact 5 (f := .free "len") rfl)
  have h_range := He.free_ok kx G (c.d.fact 22 (f := .free "range") rfl)
  have h_str := He.free_ok kx G (c.d.fact 4 (f := .free "str") rfl)
  have h_int := He.free_ok kx G (c.d.fact 1 (f := .free "int") rfl)
  have h_bool := He.free_ok kx G (c.d.fact 2 (f := .free "bool") rfl)
  obtain ⟨fd, F⟩ := c.d.def_ 8 (d := d__law_alike) rfl
  have b : Binds K fd ["_law_found", "_law_due_here"] [] := F.bindsN fun _ _ _ _ _ _ us hl => match us, hl with | [_, _], _ => rfl
  have nd := sc__law_alike.nd
  intro n
  induction n with
  | zero => exact ⟨fd, fn_dl (k := 0) (O' := []) F sc__law_alike (by decide) fun cdv A outer s H E hr => dss_never, b, F.kp, He.glo_ok kx G (c.d.fact 23 (f := .glo "_law_alike") rfl)⟩
  | succ n ih =>
    have oself := ih
    refine ⟨fd, fn_dl (k := 1 + n) (O' := []) F sc__law_alike (by decide) fun cdv A outer s H E hr => ?_, b, F.kp, He.glo_ok kx G (c.d.fact 23 (f := .glo "_law_alike") rfl)⟩
    have hu64 := hu_64 hr
    have hu := hu_65 hr
    have tk := takes_of (X := cxOf (L2.CX P w) P w K mg base ["_law_found", "_law_due_here", "_law_k"] "_law_alike" (defScope s__law_alike) (He.ga K "_law_alike") cdv A outer s H E) rfl rfl rfl rfl
    have ps := passes_of (X := cxOf (L2.CX P w) P w K mg base ["_law_found", "_law_due_here", "_law_k"] "_law_alike" (defScope s__law_alike) (He.ga K "_law_alike") cdv A outer s H E) rfl
    exact (dss_cons (ds_if (O' := []) (dt_val (de_isiT (is_tuple_list) (dv 1) (pa_cons (pe_bltn (by rfl) h_tuple (by rfl) (by rfl)) (pa_cons (pe_bltn (by rfl) h_list (by rfl) (by rfl)) pa_nil)) (.cons (.ty _) (.cons (.ty _) .nil)) (hm := h_isinstance))) (dss_cons (ds_if (O' := []) (dt_bool (dw_or (dt_not (dt_val (de_isiT (is_tuple_list) (dv 0) (pa_cons (pe_bltn (by rfl) h_tuple (by rfl) (by rfl)) (pa_cons (pe_bltn (by rfl) h_list (by rfl) (by rfl)) pa_nil)) (.cons (.ty _) (.cons (.ty _) .nil)) (hm := h_isinstance)))) (dw_or1 (dt_cmp (op_ned hu64) (de_isi (is_list) (dv 0) (pe_bltn (by rfl) h_list (by rfl) (by rfl)) (.ty _) h_isinstance) (de_isi (is_list) (dv 1) (pe_bltn (by rfl) h_list (by rfl) (by rfl)) (.ty _) h_isinstance))))) (dss_one (ds_ret de_bl)) dss_nil)
  (dss_cons (ds_if (O' := []) (dt_cmp (op_ned hu64) (de_callB cr_len (by rfl) h_len (dab_cons (dv 0) dab_nil)) (de_callB cr_len (by rfl) h_len (dab_cons (dv 1) dab_nil))) (dss_one (ds_ret de_bl)) dss_nil)
  (dss_one (ds_ret (de_cmp (op_eqd hu64) (de_lc nd (blkOk_by (own := [(("_law_k" : Str), 2)]) (by kernel_rfl)) (di_range1 (da_cons (de_callB cr_len (by rfl) h_len (dab_cons (dv 1) dab_nil)) da_nil) h_range) (gok_name 2) (fun _ _ _ _ _ => ((dg_name (O := []) 2 nd)).pg) town_name (fun _ _ _ _ _ => (dcs_one (dt_not (dt_val (de_fn oself hr L2.takes0 (da_cons (de_sub hu64 (dv 0) (dv 2)) (da_cons (de_sub hu64 (dv 1) (dv 2)) da_nil)) (aCons_len (aCons_len aNil_len))))))) (fun _ _ _ _ _ => (dv 2))) (de_lst da_nil)))))) dss_nil)
  (dss_cons (ds_if (O' := []) (dt_bool (dw_or (dt_isN (dv 1)) (dw_or1 (dt_val (de_isi (is_str) (dv 1) (pe_bltn (by rfl) h_str (by rfl) (by rfl)) (.ty _) h_isinstance))))) (dss_one (ds_ret (de_and (de_cmp (op_eqd hu64) (dv 0) (dv 1)) (de_one (de_cmp (op_eqd hu64) (de_isi (is_str) (dv 0) (pe_bltn (by rfl) h_str (by rfl) (by rfl)) (.ty _) h_isinstance) (de_isi (is_str) (dv 1) (pe_bltn (by rfl) h_str (by rfl) (by rfl)) (.ty _) h_isinstance)))))) dss_nil)
  (dss_one (ds_ret (de_and (de_isi (is_int) (dv 0) (pe_bltn (by rfl) h_int (by rfl) (by rfl)) (.ty _) h_isinstance) (de_and (de_cmp (op_eqd hu64) (de_isi (is_bool) (dv 0) (pe_bltn (by rfl) h_bool (by rfl) (by rfl)) (.ty _) h_isinstance) (de_isi (is_bool) (dv 1) (pe_bltn (by rfl) h_bool (by rfl) (by rfl)) (.ty _) h_isinstance)) (de_one (de_cmp (op_eqd hu64) (dv 0) (dv 1)))))))))
theorem sc__law_told : FnScope ["_law_entries", "_law_code", "e"] ["_law_entries", "_law_code"] (defScope s__law_told) := ⟨rfl, rfl, rfl, by decide +kernel, rfl, by decide +kernel, by decide +kernel⟩
theorem ok__law_told {P : Program} {w : World} {K : PySem.W.Frag} {h : Heap} {mg : Str → Option Value} {base : Heap} (kx : K.In h) (G : h.Ns mainGlobals mg) (c : SaysX fa fn ts bs w K) : Fok P w K mg base "_law_told" 4 ["_law_entries", "_law_code"] f__law_told := by
  have o_unpooled := ok_unpooled (P := P) (w := w) (base := base) kx G c
  have n_BadPool := He.glo_ok kx G (c.d.fact 24 (f := .glo "BadPool") rfl)
  have toK_BadPool : ∀ d b, to_BadPool d = some b → PySem.W.exmOne K (.ref (He.ga K d)) (.ref (He.ga K "BadPool")) = some b := by
    intro d b e
    unfold to_BadPool at e
    by_cases hh : d = "BadPool"
    · subst hh; cases e; exact of_decide_eq_true (c.d.fact 25 (f := .exm "BadPool" "BadPool" true) rfl)
    rw [if_neg hh] at e
    clear hh
    by_cases hh : d = "BadPooled"
    · subst hh; cases e; exact of_decide_eq_true (c.d.fact 26 (f := .exm "BadPooled" "BadPool" false) rfl)
    rw [if_neg hh] at e
    clear hh
    cases e
  have n_BadPooled := He.glo_ok kx G (c.d.fact 27 (f := .glo "BadPooled") rfl)
  have toK_BadPooled : ∀ d b, to_BadPooled d = some b → PySem.W.exmOne K (.ref (He.ga K d)) (.ref (He.ga K "BadPooled")) = some b := by
    intro d b e
    unfold to_BadPooled at e
    by_cases hh : d = "BadPool"
    · subst hh; cases e; exact of_decide_eq_true (c.d.fact 28 (f := .exm "BadPool" "BadPooled" false) rfl)
    rw [if_neg hh] at e
    clear hh
    by_cases hh : d = "BadPooled"
    · subst hh; cases e; exact of_decide_eq_true (c.d.fact 29 (f := .exm "BadPooled" "BadPooled" true) rfl)
    rw [if_neg hh] at e
    clear hh
    cases e
  have xf1_BadPool_index : XfC K (He.ga K "BadPool") ∧ PySem.W.findIn K (.ref (He.ga K "BadPool")) "index" = some none := ⟨xfB_ok (c.b 2 rfl), He.eqO_ok (c.d.fact 30 (f := .noat "BadPool" "index") rfl)⟩
  have xf_BadPool_index : ∀ z ∈ (["BadPool"] : List Str), XfC K (He.ga K z) ∧ PySem.W.findIn K (.ref (He.ga K z)) "index" = some none := by
    intro z hz
    simp only [List.mem_cons, List.not_mem_nil, or_false] at hz
    rcases hz with rfl
    · exact xf1_BadPool_index
  have xf1_BadPooled_step : XfC K (He.ga K "BadPooled") ∧ PySem.W.findIn K (.ref (He.ga K "BadPooled")) "step" = some none := ⟨xfB_ok (c.b 3 rfl), He.eqO_ok (c.d.fact 31 (f := .noat "BadPooled" "step") rfl)⟩
  have xf_BadPooled_step : ∀ z ∈ (["BadPooled"] : List Str), XfC K (He.ga K z) ∧ PySem.W.findIn K (.ref (He.ga K z)) "step" = some none := by
    intro z hz
    simp only [List.mem_cons, List.not_mem_nil, or_false] at hz
    rcases hz with rfl
    · exact xf1_BadPooled_step
  obtain ⟨fd, F⟩ := c.d.def_ 9 (d := d__law_told) rfl
  have b : Binds K fd ["_law_entries", "_law_code"] [] := F.bindsN fun _ _ _ _ _ _ us hl => match us, hl with | [_, _], _ => rfl
  have nd := sc__law_told.nd
  refine ⟨fd, fn_dl (k := 3) (O' := []) F sc__law_told (by decide) fun cdv A outer s H E hr => ?_, b, F.kp, He.glo_ok kx G (c.d.fact 32 (f := .glo "_law_told") rfl)⟩
  have hu64 := hu_64 hr
  have hu := hu_65 hr
  have tk := takes_of (X := cxOf (L2.CX P w) P w K mg base ["_law_entries", "_law_code", "e"] "_law_told" (defScope s__law_told) (He.ga K "_law_told") cdv A outer s H E) rfl rfl rfl rfl
  have ps := passes_of (X := cxOf (L2.CX P w) P w K mg base ["_law_entries", "_law_code", "e"] "_law_told" (defScope s__law_told) (He.ga K "_law_told") cdv A outer s H E) rfl
  exact (dss_one (ds_try (hN := nd) (tk := tk) (hb := fun W' pn xe tk ps =>
  (dss_one (ds_ret (de_fn o_unpooled (hr.mono (by decide)) tk (da_cons (dv 0) (da_cons (dv 1) da_nil)) (aCons_len (aCons_len aNil_len)))))) (hh := (.named (i := 2) ⟨by rfl, by decide, .inl n_BadPool⟩ (by rfl) (by rfl) (by decide) toK_BadPool (fun a oe cls d pn x hz hf =>
  (dss_one (ds_ret (de_tup (da_cons de_str (da_cons (de_xf (i := 2) [("BadPool" : Str)] xf_BadPool_index hz hf) da_nil)))))) (.named (i := 2) ⟨by rfl, by decide, .inl n_BadPooled⟩ (by rfl) (by rfl) (by decide) toK_BadPooled (fun a oe cls d pn x hz hf =>
  (dss_one (ds_ret (de_tup (da_cons de_str (da_cons (de_xf (i := 2) [("BadPooled" : Str)] xf_BadPooled_step hz hf) da_nil)))))) .nil)))))
theorem sc__law_due : FnScope ["_law_entries", "_law_code", "_law_kinds", "_law_found", "_law_index", "_law_step", "_law_good"] ["_law_entries", "_law_code"] (defScope s__law_due) := ⟨rfl, rfl, rfl, by decide +kernel, rfl, by decide +kernel, by decide +kernel⟩
theorem ok__law_due {P : Program} {w : World} {K : PySem.W.Frag} {h : Heap} {mg : Str → Option Value} {base : Heap} (kx : K.In h) (G : h.Ns mainGlobals mg) (c : SaysX fa fn ts bs w K) : Fok P w K mg base "_law_due" 1 ["_law_entries", "_law_code"] f__law_due := by
  have h_range := He.free_ok kx G (c.d.fact 22 (f := .free "range") rfl)
  have h_len := He.free_ok kx G (c.d.fact 5 (f := .free "len") rfl)
  have h_list := He.free_ok kx G (c.d.fact 21 (f := .free "list") rfl)
  have h_isinstance := He.free_ok kx G (c.d.fact 0 (f := .free "isinstance") rfl)
  have h_int := He.free_ok kx G (c.d.fact 1 (f := .free "int") rfl)
  have h_bool := He.free_ok kx G (c.d.fact 2 (f := .free "bool") rfl)
  have h_tuple := He.free_ok kx G (c.d.fact 9 (f := .free "tuple") rfl)
  obtain ⟨fd, F⟩ := c.d.def_ 10 (d := d__law_due) rfl
  have b : Binds K fd ["_law_entries", "_law_code"] [] := F.bindsN fun _ _ _ _ _ _ us hl => match us, hl with | [_, _], _ => rfl
  have nd := sc__law_due.nd
  refine ⟨fd, fn_dl (k := 0) (O' := []) F sc__law_due (by decide) fun cdv A outer s H E hr => ?_, b, F.kp, He.glo_ok kx G (c.d.fact 33 (f := .glo "_law_due") rfl)⟩
  have hu64 := hu_64 hr
  have hu := hu_65 hr
  have tk := takes_of (X := cxOf (L2.CX P w) P w K mg base ["_law_entries", "_law_code", "_law_kinds", "_law_found", "_law_index", "_law_step", "_law_good"] "_law_due" (defScope s__law_due) (He.ga K "_law_due") cdv A outer s H E) rfl rfl rfl rfl
  have ps := passes_of (X := cxOf (L2.CX P w) P w K mg base ["_law_entries", "_law_code", "_law_kinds", "_law_found", "_law_index", "_law_step", "_law_good"] "_law_due" (defScope s__law_due) (He.ga K "_law_due") cdv A outer s H E) rfl
  exact (dss_cons (ds_set 2 (DE.toE (de_disp (dps_cons de_str de_str (dps_cons de_str de_str (dps_cons de_str de_str (dps_cons de_str de_str (dps_cons de_str de_str (dps_cons de_str de_str dps_nil)))))))) nd)
  (dss_cons (ds_own 3 (de_lst da_nil) nd)
  (dss_cons (ds_for ps (di_range1 (da_cons (de_callB cr_len (by rfl) h_len (dab_cons (dv 1) dab_nil)) da_nil) h_range) (dg_name 4 nd) (dss_cons (ds_set 5 (de_sub hu64 (dv 1) (dv 4)) nd)
  (dss_cons (ds_if (O' := [3]) (dt_bool (dw_and (dt_cmp (op_ned hu64) (dv 5) (de_tup da_nil)) (dw_and1 (dt_cmp (op_ind hu) (de_sub hu64 (dv 5) de_int) (de_callTy (cr_lst rfl) (by rfl) h_list (dab_cons (dv 2) dab_nil)))))) (dss_cons (ds_set 6 (de_and (de_cmp (op_eqd hu64) (de_callB cr_len (by rfl) h_len (dab_cons (dv 5) dab_nil)) de_int) (de_and (de_isi (is_int) (de_sub hu64 (dv 5) de_int) (pe_bltn (by rfl) h_int (by rfl) (by rfl)) (.ty _) h_isinstance) (de_one (de_not (de_isi (is_bool) (de_sub hu64 (dv 5) de_int) (pe_bltn (by rfl) h_bool (by rfl) (by rfl)) (.ty _) h_isinstance))))) nd)
  (dss_cons (ds_if (O' := [3]) (dt_bool (dw_or (dt_not (dt_tru (dv 6))) (dw_or (dt_not (dt_chain (op_led) (op_lti) de_int (de_sub hu64 (dv 5) de_int) (de_callB cr_len (by rfl) h_len (dab_cons (dv 0) dab_nil)))) (dw_or1 (dt_cmp (op_ned hu64) (de_sub hu64 (de_sub hu64 (dv 0) (de_sub hu64 (dv 5) de_int)) de_int) (de_sub hu64 (dv 2) (de_sub hu64 (dv 5) de_int))))))) (dss_one (ds_ret (de_tup (da_cons de_str (da_cons (dv 4) da_nil))))) dss_nil)
  (dss_one (ds_set 5 (de_bin op_addd (de_tup (da_cons (de_sub hu64 (dv 5) de_int) da_nil)) (de_sl (de_sub hu64 (dv 0) (de_sub hu64 (dv 5) de_int)) (do_some de_int) do_none)) nd)))) dss_nil)
  (dss_one (ds_app 3 (dv 5))))))
  (dss_one (ds_ret (de_callTy cr_tup (by rfl) h_tuple (dab_cons (dvb 3) dab_nil)))))))
theorem sc_law : FnScope ["_law_script", "_law_row", "_law_some", "_law_turn", "_law_entries", "_law_goods", "_law_code", "_law_at", "_law_place", "_law_word", "_law_odd", "_law_wrong", "_law_value"] ["_law_script"] (defScope s_law) := ⟨rfl, rfl, rfl, by decide +kernel, rfl, by decide +kernel, by decide +kernel⟩
theorem ok_law {P : Program} {w : World} {K : PySem.W.Frag} {h : Heap} {mg : Str → Option Value} (kx : K.In h) (G : h.Ns mainGlobals mg) (c : SaysX fa fn ts bs w K) :
    ∃ fd : FuncData, (∀ (s : Shared) (u : Value), BindsTo s fd ⟨[u], []⟩ [("_law_script", u)]) ∧ mg "law" = some (.ref (He.ga K "law")) ∧ ∀ base : Heap, FnOk P w K mg base (L2.CX P w) 11 (He.ga K "law") fd ["_law_script"] (spD K 1 f_law) := by
  obtain ⟨fd, F⟩ := c.d.def_ 11 (d := d_law) rfl
  have nd := sc_law.nd
  refine ⟨fd, fun s u => F.bindsA (ps := ["_law_script"]) (fun _ _ _ _ _ _ us hl => match us, hl with | [_], _ => rfl) s [u] rfl, He.glo_ok kx G (c.d.fact 34 (f := .glo "law") rfl), fun base => ?_⟩
  have o__law_taken := ok__law_taken (P := P) (w := w) (base := base) kx G c
  have o__law_pick := ok__law_pick (P := P) (w := w) (base := base) kx G c
  have o__law_alike := ok__law_alike (P := P) (w := w) (base := base) kx G c 9
  have o__law_due := ok__law_due (P := P) (w := w) (base := base) kx G c
  have o__law_told := ok__law_told (P := P) (w := w) (base := base) kx G c
  have h_range := He.free_ok kx G (c.d.fact 22 (f := .free "range") rfl)
  have h_tuple := He.free_ok kx G (c.d.fact 9 (f := .free "tuple") rfl)
  have h_len := He.free_ok kx G (c.d.fact 5 (f := .free "len") rfl)
  have h_list := He.free_ok kx G (c.d.fact 21 (f := .free "list") rfl)
  refine fn_dl (k := 10) (O' := []) F sc_law (by decide) fun cdv A outer s H E hr => ?_
  have hu64 := hu_64 hr
  have hu := hu_65 hr
  have tk := takes_of (X := cxOf (L2.CX P w) P w K mg base ["_law_script", "_law_row", "_law_some", "_law_turn", "_law_entries", "_law_goods", "_law_code", "_law_at", "_law_place", "_law_word", "_law_odd", "_law_wrong", "_law_value"] "law" (defScope s_law) (He.ga K "law") cdv A outer s H E) rfl rfl rfl rfl
  have ps := passes_of (X := cxOf (L2.CX P w) P w K mg base ["_law_script", "_law_row", "_law_some", "_law_turn", "_law_entries", "_law_goods", "_law_code", "_law_at", "_law_place", "_law_word", "_law_odd", "_law_wrong", "_law_value"] "law" (defScope s_law) (He.ga K "law") cdv A outer s H E) rfl
  exact (dss_cons (ds_newO 1 (da_cons (dv 0) (da_cons de_int (da_cons de_int (da_cons de_int da_nil)))) nd (aCons_len (aCons_len (aCons_len (aCons_len aNil_len)))))
  (dss_cons (ds_set 2 (DE.toE (de_lst (da_cons (de_tup (da_cons de_str (da_cons de_str da_nil))) (da_cons (de_tup (da_cons de_str (da_cons de_str da_nil))) (da_cons (de_tup (da_cons de_str (da_cons de_str (da_cons de_str da_nil)))) (da_cons (de_tup (da_cons de_str (da_cons de_str (da_cons de_str da_nil)))) (da_cons (de_tup (da_cons de_str (da_cons de_str da_nil))) da_nil))))))) nd)
  (dss_cons (ds_for ps (di_range1 (da_cons de_int da_nil) h_range) (dg_name 3 nd) (dss_cons (ds_set 4 (de_callTy cr_tup (by rfl) h_tuple (dab_cons (de_lc nd (blkOk_by (own := [(("_law_at" : Str), 7)]) (by kernel_rfl)) (di_range1 (da_cons (de_fn o__law_taken (hr.mono (by decide)) tk (da_cons (dv 1) (da_cons de_int da_nil)) (aCons_len (aCons_len aNil_len))) da_nil) h_range) (gok_name 7) (fun _ _ _ _ _ => ((dg_name (O := []) 7 nd)).pg) town_name (fun _ _ _ _ _ => dcs_nil) (fun _ _ _ _ _ => (de_fn o__law_pick (hr.mono (by decide)) L2.takes0 (da_cons (dv 1) (da_cons (dv 2) da_nil)) (aCons_len (aCons_len aNil_len))))) dab_nil)) nd)
  (dss_cons (ds_par 5 6 (dak_e (DE.toE (de_disp (dps_cons de_str (DE.toE (de_lst (da_cons de_str (da_cons de_str (da_cons de_str da_nil))))) (dps_cons de_str (DE.toE (de_lst (da_cons de_str (da_cons de_str da_nil)))) (dps_cons de_str (DE.toE (de_lst (da_cons de_str da_nil))) dps_nil))))) (dak_f (de_lst da_nil) dak_nil)) nd)
  (dss_cons (ds_for ps (di_range1 (da_cons (de_fn o__law_taken (hr.mono (by decide)) tk (da_cons (dv 1) (da_cons (de_sub hu64 (de_lst (da_cons de_int (da_cons de_int da_nil))) (de_fn o__law_taken (hr.mono (by decide)) tk (da_cons (dv 1) (da_cons de_int da_nil)) (aCons_len (aCons_len aNil_len)))) da_nil)) (aCons_len (aCons_len aNil_len))) da_nil) h_range) (dg_name 7 nd) (dss_one (ds_if (O' := [6]) (dt_bool (dw_and (dt_cmp (op_ned hu64) (dv 4) (de_tup da_nil)) (dw_and1 (dt_cmp (op_gtd) (de_fn o__law_taken (hr.mono (by decide)) tk (da_cons (dv 1) (da_cons de_int da_nil)) (aCons_len (aCons_len aNil_len))) de_int)))) (dss_cons (ds_set 8 (de_fn o__law_taken (hr.mono (by decide)) tk (da_cons (dv 1) (da_cons (de_callB cr_len (by rfl) h_len (dab_cons (dv 4) dab_nil)) da_nil)) (aCons_len (aCons_len aNil_len))) nd)
  (dss_one (ds_app 6 (de_tup (da_cons (de_fn o__law_pick (hr.mono (by decide)) tk (da_cons (dv 1) (da_cons (de_sub hu64 (dv 5) (de_sub hu64 (de_sub hu64 (dv 4) (dv 8)) de_int)) da_nil)) (aCons_len (aCons_len aNil_len))) (da_cons (dv 8) da_nil)))))) (dss_one (ds_if (O' := [6]) (dt_cmp (op_gtd) (de_fn o__law_taken (hr.mono (by decide)) tk (da_cons (dv 1) (da_cons de_int da_nil)) (aCons_len (aCons_len aNil_len))) de_int) (dss_one (ds_app 6 (de_fn o__law_pick (hr.mono (by decide)) tk (da_cons (dv 1) (da_cons (DE.toE (de_lst (da_cons (de_tup (da_cons de_str (da_cons de_int da_nil))) (da_cons (de_tup da_nil) (da_cons (de_tup (da_cons de_str (da_cons de_int (da_cons de_int da_nil)))) (da_cons (de_tup (da_cons de_int da_nil)) (da_cons (de_tup (da_cons de_non da_nil)) (da_cons (de_tup (da_cons de_str da_nil)) (da_cons (de_tup (da_cons de_str (da_cons de_int da_nil))) da_nil))))))))) da_nil)) (aCons_len (aCons_len aNil_len))))) (dss_cons (ds_par 9 10 (dak_e (de_fn o__law_pick (hr.mono (by decide)) tk (da_cons (dv 1) (da_cons (DE.toE (de_lst (da_cons de_str (da_cons de_str (da_cons de_str (da_cons de_str da_nil)))))) da_nil)) (aCons_len (aCons_len aNil_len))) (dak_e (DE.toE (de_lst (da_cons de_int (da_cons (de_callB cr_len (by rfl) h_len (dab_cons (dv 4) dab_nil)) (da_cons (de_un un_negd de_int) (da_cons de_bl (da_cons de_str (da_cons de_non da_nil)))))))) dak_nil)) nd)
  (dss_one (ds_app 6 (de_fn o__law_pick (hr.mono (by decide)) tk (da_cons (dv 1) (da_cons (DE.toE (de_lst (da_cons (de_tup (da_cons (dv 9) (da_cons (de_fn o__law_pick (hr.mono (by decide)) tk (da_cons (dv 1) (da_cons (dv 10) da_nil)) (aCons_len (aCons_len aNil_len))) da_nil))) (da_cons (de_tup (da_cons (dv 9) da_nil)) (da_cons (de_tup (da_cons (dv 9) (da_cons de_int (da_cons de_int da_nil)))) da_nil))))) da_nil)) (aCons_len (aCons_len aNil_len)))))))))))
  (dss_cons (DS.pre (O1 := []) (ds_if (O' := []) (dt_not (dt_val (de_fn o__law_alike (hr.mono (by decide)) tk (da_cons (de_fn o__law_told (hr.mono (by decide)) tk (da_cons (dv 4) (da_cons (de_callTy cr_tup (by rfl) h_tuple (dab_cons (dv 6) dab_nil)) da_nil)) (aCons_len (aCons_len aNil_len))) (da_cons (de_fn o__law_due (hr.mono (by decide)) tk (da_cons (dv 4) (da_cons (dv 6) da_nil)) (aCons_len (aCons_len aNil_len))) da_nil)) (aCons_len (aCons_len aNil_len))))) (dss_one (ds_ret de_bl)) dss_nil))
  (dss_cons (ds_set 11 (DE.toE (de_lst (da_cons de_non (da_cons (de_tup da_nil) (da_cons (de_tup (da_cons de_str da_nil)) (da_cons (de_tup (da_cons de_str (da_cons de_str (da_cons de_str da_nil)))) (da_cons (de_tup (da_cons de_str (da_cons de_str da_nil))) (da_cons (de_tup (da_cons de_str (da_cons de_str da_nil))) (da_cons (de_tup (da_cons de_str (da_cons de_str da_nil))) (da_cons de_int da_nil)))))))))) nd)
  (dss_cons (ds_set 11 (de_bin op_addd (dv 11) (de_lst (da_cons (de_tup (da_cons de_str (da_cons de_str da_nil))) (da_cons (de_tup (da_cons de_str (da_cons de_str da_nil))) (da_cons (DE.toE (de_lst (da_cons de_str (da_cons de_str da_nil)))) (da_cons (de_tup (da_cons de_str (da_cons de_non da_nil))) (da_cons (de_tup (da_cons de_non (da_cons de_str da_nil))) da_nil))))))) nd)
  (dss_one (ds_for ps (di_seq (dv 11)) (dg_name 12 nd) (dss_one (ds_if (O' := []) (dt_cmp (op_ned hu64) (de_fn o__law_told (hr.mono (by decide)) tk (da_cons (de_bin op_addd (dv 4) (de_tup (da_cons (dv 12) (da_cons de_non da_nil)))) (da_cons (de_tup da_nil) da_nil)) (aCons_len (aCons_len aNil_len))) (de_tup (da_cons de_str (da_cons (de_callB cr_len (by rfl) h_len (dab_cons (dv 4) dab_nil)) da_nil)))) (dss_one (ds_ret de_bl)) dss_nil)))))))))))
  (dss_cons (ds_for ps (di_seq (DE.toE (de_lst (da_cons de_non (da_cons (DE.toE (de_callTy (cr_lst rfl) (by rfl) h_list (dab_cons (dv 2) dab_nil))) (da_cons (de_bin op_repTd (de_tup (da_cons (de_sub hu64 (dv 2) de_int) da_nil)) de_int) (da_cons de_int (da_cons (DE.toE de_newK) da_nil)))))))) (dg_name 12 nd) (dss_one (ds_if (O' := []) (dt_cmp (op_ned hu64) (de_fn o__law_told (hr.mono (by decide)) tk (da_cons (dv 12) (da_cons (de_tup da_nil) da_nil)) (aCons_len (aCons_len aNil_len))) (de_tup (da_cons de_str (da_cons de_non da_nil)))) (dss_one (ds_ret de_bl)) dss_nil)))
  (dss_cons (ds_for ps (di_seq (DE.toE (de_lst (da_cons de_non (da_cons (DE.toE (de_lst (da_cons (de_tup (da_cons de_str (da_cons de_int da_nil))) da_nil))) (da_cons (de_bin op_repTd (de_tup (da_cons (de_tup (da_cons de_str (da_cons de_int da_nil))) da_nil)) de_int) (da_cons (de_tup (da_cons de_non da_nil)) (da_cons (de_tup (da_cons (de_tup (da_cons de_str (da_cons de_int da_nil))) (da_cons (DE.toE (de_lst (da_cons de_str (da_cons de_int da_nil)))) da_nil))) (da_cons de_str (da_cons de_int da_nil)))))))))) (dg_name 12 nd) (dss_one (ds_if (O' := []) (dt_cmp (op_ned hu64) (de_fn o__law_told (hr.mono (by decide)) tk (da_cons (de_tup da_nil) (da_cons (dv 12) da_nil)) (aCons_len (aCons_len aNil_len))) (de_tup (da_cons de_str (da_cons de_non da_nil)))) (dss_one (ds_ret de_bl)) dss_nil)))
  (dss_one (ds_ret (de_cmp (op_eqd hu64) (de_callB cr_len (by rfl) h_len (dab_cons (de_fn o__law_told (hr.mono (by decide)) tk (da_cons (de_bin op_repTd (de_tup (da_cons (de_sub hu64 (dv 2) de_int) da_nil)) de_int) (da_cons (de_bin op_repTd (de_tup (da_cons (de_tup (da_cons de_str (da_cons de_int da_nil))) da_nil)) de_int) da_nil)) (aCons_len (aCons_len aNil_len))) dab_nil)) de_int))))))))
end K38

set_option maxHeartbeats 4000000
namespace K38
open DL PySem PySem.Spec PyProof.Rows L2
def row (cells : List Int) (n : Nat) (seed pend : Int) : Sto := [SO.lst [.lst (cells.map D.int), .int n, .int seed, .int pend]]
theorem taken_ok (cells : List Int) (n : Nat) (seed pend m : Int) (h0 : 0 < m) (h1 : m < 1073741824) :
    ∃ (r : Int) (n' : Nat) (seed' pend' : Int), f__law_taken [.obj 0, .int m] (row cells n seed pend) = .ok (.int r) (row cells n' seed' pend') ∧ 0 ≤ r ∧ r < m := by
  by_cases hp : 0 < pend
  · refine ⟨pend % m, n, seed, pend / m, ?_, Int.emod_nonneg _ (by omega), Int.emod_lt_of_pos _ h0⟩
    simp [f__law_taken, b__law_taken, fnD, sSeq, sIf, sBind, e2, eVar, eC, deref, ixF, ixS, L2.atI, ixN, row, iLt, hp, sSet, eN, aCons, aNil, f1, intF, modF, h0, sPutO, setO, divF, h1, sRet, Ress.bind]
  · by_cases hn : n + 1 > cells.length
    · refine ⟨(((seed * 48271 + 11) % 2147483647) / 7) % m, n + 1, (seed * 48271 + 11) % 2147483647, pend, ?_, Int.emod_nonneg _ (by omega), Int.emod_lt_of_pos _ h0⟩
      have hn' : (cells.length : Int) < (n : Int) + 1 := by omega
      simp [f__law_taken, b__law_taken, fnD, sSeq, sIf, sBind, e2, eVar, eC, deref, ixF, ixS, L2.atI, ixN, row, iLt, hp, sSet, eN, aCons, aNil, f1, intF, modF, h0, sPutO, setO, divF, h1, sRet, Ress.bind, sNext, addF, lenF, hn', mulF]
    · have hn' : ¬ (cells.length : Int) < (n : Int) + 1 := by omega
      have hl : n < cells.length := by omega
      have hat : L2.atI (cells.map D.int) ((n : Int) + 1 - 1) = some (.int cells[n]) := by
        unfold L2.atI ixN
        have e1 : (n : Int) + 1 - 1 = (n : Int) := by omega
        rw [e1, if_pos (Int.natCast_nonneg n), if_pos (by simpa using hl)]
        simp [hl]
      by_cases hc : (10 : Int) ^ 18 ≤ cells[n]
      · refine ⟨cells[n] % m, n + 1, (seed * 48271 + cells[n] + 11) % 2147483647, cells[n] / m, ?_, Int.emod_nonneg _ (by omega), Int.emod_lt_of_pos _ h0⟩
        have hc' : (1000000000000000000 : Int) ≤ cells[n] := by simpa using hc
        simp [f__law_taken, b__law_taken, fnD, sSeq, sIf, sBind, e2, eVar, eC, deref, ixF, ixS, L2.atI, ixN, row, iLt, hp, sSet, eN, aCons, aNil, f1, intF, modF, h0, sPutO, setO, divF, h1, sRet, Ress.bind, sNext, addF, lenF, hn', mulF, subF, powF, hc', hl]
      · refine ⟨cells[n] % m, n + 1, (seed * 48271 + cells[n] + 11) % 2147483647, pend, ?_, Int.emod_nonneg _ (by omega), Int.emod_lt_of_pos _ h0⟩
        have hc' : ¬ (1000000000000000000 : Int) ≤ cells[n] := by simpa using hc
        simp [f__law_taken, b__law_taken, fnD, sSeq, sIf, sBind, e2, eVar, eC, deref, ixF, ixS, L2.atI, ixN, row, iLt, hp, sSet, eN, aCons, aNil, f1, intF, modF, h0, sPutO, setO, divF, h1, sRet, Ress.bind, sNext, addF, lenF, hn', mulF, subF, powF, hc', hl]
end K38

set_option maxHeartbeats 4000000
namespace K38
open DL PySem PySem.Spec PyProof.Rows L2

/-- an entry: its kind, its words -/
abbrev En := Str × List Str
def en (e : En) : D := .tup (.str e.1 :: e.2.map D.str)
def kind : Str → Option Str := fun s => (tab_ENTRIES.lookup s).bind fun d => match d with | .str k => some k | _ => none
def conv (E : List En) (xs : List D) : Option (List D) := match xs with
  | .str s :: rest => (match kind s with
    | some k => (match rest with
      | [.int p] => if 0 ≤ p ∧ p < E.length then (match E[p.toNat]? with
        | some e => if e.1 = k then some (.str s :: e.2.map D.str) else none
        | none => none) else none
      | _ => none)
    | none => some xs)
  | _ => some xs
theorem kind_some {s k : Str} (h : kind s = some k) : tab_ENTRIES.lookup s = some (.str k) := by
  unfold kind at h
  cases e : tab_ENTRIES.lookup s with
  | none => rw [e] at h; cases h
  | some d =>
    rw [e] at h
    simp only [Option.bind_some] at h
    cases d <;> simp at h
    subst h
    rfl
theorem tab_str (s : Str) : ∀ {l : List (Str × He.Dv)} {d : He.Dv}, (∀ p ∈ l, ∃ k, p.2 = .str k) → l.lookup s = some d → ∃ k, d = .str k := by
  intro l d h e
  exact h _ (lookup_mem e)
theorem kind_none {s : Str} (h : kind s = none) : tab_ENTRIES.lookup s = none := by
  cases e : tab_ENTRIES.lookup s with
  | none => rfl
  | some d =>
    obtain ⟨k, rfl⟩ := tab_str s (by intro p hp; simp [tab_ENTRIES] at hp; rcases hp with rfl | rfl | rfl | rfl | rfl | rfl <;> exact ⟨_, rfl⟩) e
    unfold kind at h
    rw [e] at h
    cases h
/-- is_in on what can stand in a step -/
theorem isin_int (v a b : Int) (S : Sto) : f_is_in [.int v, .int a, .int b] S = .ok (.bl (decide (a ≤ v) && decide (v ≤ b))) S := by
  have h1 : tb_int "int" = true := by decide +kernel
  have h2 : tb_bool "int" = false := by decide +kernel
  by_cases h : a ≤ v <;> simp [f_is_in, b_is_in, fnD, sRet, sBind, eAnd, eNot, notF, e1, eVar, isF, tyB, h1, h2, eChain, iLt, h]
theorem isin_other (d : D) (a b : Int) (S : Sto) (h : d = .non ∨ (∃ b, d = .bl b) ∨ ∃ x, d = .str x) : f_is_in [d, .int a, .int b] S = .ok (.bl false) S := by
  have h1 : tb_int "NoneType" = false := by decide +kernel
  have h2 : tb_int "str" = false := by decide +kernel
  have h3 : tb_int "bool" = true := by decide +kernel
  have h4 : tb_bool "bool" = true := by decide +kernel
  rcases h with rfl | ⟨x, rfl⟩ | ⟨x, rfl⟩ <;> simp [f_is_in, b_is_in, fnD, sRet, sBind, eAnd, eNot, notF, e1, eVar, isF, tyB, h1, h2, h3, h4]
theorem E_at {E : List En} {p : Int} (h : 0 ≤ p ∧ p < E.length) : ∃ e, E[p.toNat]? = some e ∧ L2.atI (E.map en) p = some (en e) := by
  have hl : p.toNat < E.length := by omega
  refine ⟨E[p.toNat], List.getElem?_eq_getElem hl, ?_⟩
  unfold L2.atI ixN
  rw [if_pos h.1, if_pos (by simpa using h.2)]
  simp [hl]
theorem conv_in {E : List En} {s k : Str} {p : Int} {e : En} (hk : kind s = some k) (h : 0 ≤ p ∧ p < (E.length : Int)) (he : E[p.toNat]? = some e) : conv E [.str s, .int p] = if e.1 = k then some (.str s :: e.2.map D.str) else none := by
  unfold conv
  simp only [hk, if_pos h, he]
theorem conv_out {E : List En} {s k : Str} {p : Int} (hk : kind s = some k) (h : ¬ (0 ≤ p ∧ p < (E.length : Int))) : conv E [.str s, .int p] = none := by
  unfold conv
  simp only [hk, if_neg h]
theorem conv_odd {E : List En} {s k : Str} {x : D} (hk : kind s = some k) (h : x = .non ∨ (∃ b, x = .bl b) ∨ ∃ z, x = .str z) : conv E [.str s, x] = none := by
  unfold conv
  rcases h with rfl | ⟨_, rfl⟩ | ⟨_, rfl⟩ <;> simp only [hk]
/-- what a step's second word may be -/
def Odd (d : D) : Prop := (∃ i, d = .int i) ∨ d = .non ∨ (∃ b, d = .bl b) ∨ ∃ x, d = .str x
theorem named_ok {E : List En} {s k : Str} {rest : List D} (S : Sto) (hE : ∀ e ∈ E, e.2.length ≤ 10) (hk : kind s = some k) (ho : ∀ d ∈ rest, Odd d) : f_named [.tup (E.map en), .tup (.str s :: rest)] S = .ok (match conv E (.str s :: rest) with | some ys => .tup ys | none => .non) S := by
  have hl := kind_some hk
  match rest, ho with
  | [], _ => simp [f_named, b_named, fnD, sSeq, sIf, sBind, eOr, e2, eN, aCons, aNil, f1, lenF, eVar, eC, neF, scalD, eqD_int, Ress.bind, sRet, conv, hk]
  | [x], ho =>
    have hx := ho x (by simp)
    by_cases hp : ∃ p, x = .int p ∧ 0 ≤ p ∧ p < (E.length : Int)
    · obtain ⟨p, rfl, h1, h2⟩ := hp
      obtain ⟨e, he, hat⟩ := E_at (E := E) ⟨h1, h2⟩
      have h3 : p ≤ (E.length : Int) - 1 := by omega
      rw [conv_in hk ⟨h1, h2⟩ he]
      have hz : e.2.length + 1 < LIM := by
        have := hE e (List.mem_of_getElem? he)
        have hL : (20 : Nat) < LIM := by decide
        omega
      by_cases hek : e.1 = k
      · simp [f_named, b_named, fnD, sSeq, sIf, sBind, eOr, e2, eN, aCons, aNil, f1, lenF, eVar, eC, neF, scalD, eqD_int, eqD_str, Ress.bind, sRet, hk, eCall, ixF, ixS, atI_0, atI_1, subF, eNot, notF, sNext, sSet, eIf, e1, kSub, hl, dvD, eqF, en, eTup, aStar, eSl, ptF, optI, slF, cutD_tail, itemsD, isin_int, h1, h2, h3, hat, hek, hz]
      · simp [f_named, b_named, fnD, sSeq, sIf, sBind, eOr, e2, eN, aCons, aNil, f1, lenF, eVar, eC, neF, scalD, eqD_int, eqD_str, Ress.bind, sRet, hk, eCall, ixF, ixS, atI_0, atI_1, subF, eNot, notF, sNext, sSet, eIf, e1, kSub, hl, dvD, eqF, en, eTup, aStar, eSl, ptF, optI, slF, cutD_tail, itemsD, isin_int, h1, h2, h3, hat, hek]
    · have hin : f_is_in [x, .int 0, .int ((E.length : Int) - 1)] S = .ok (.bl false) S := by
        rcases hx with ⟨p, rfl⟩ | h
        · rw [isin_int]
          have : ¬ (0 ≤ p ∧ p ≤ (E.length : Int) - 1) := fun z => hp ⟨p, rfl, z.1, by omega⟩
          by_cases q : 0 ≤ p
          · have : ¬ p ≤ (E.length : Int) - 1 := fun z => this ⟨q, z⟩
            simp [this]
          · simp [q]
        · exact isin_other x _ _ S h
      have hc : conv E [.str s, x] = none := by
        rcases hx with ⟨p, rfl⟩ | h
        · exact conv_out hk fun z => hp ⟨p, rfl, z.1, z.2⟩
        · exact conv_odd hk h
      rw [hc]
      simp [f_named, b_named, fnD, sSeq, sIf, sBind, eOr, e2, eN, aCons, aNil, f1, lenF, eVar, eC, neF, scalD, eqD_int, eqD_str, Ress.bind, sRet, hk, eCall, ixF, ixS, atI_0, atI_1, subF, eNot, notF, sNext, sSet, eIf, e1, kSub, hl, dvD, eqF, en, eTup, aStar, eSl, ptF, optI, slF, cutD_tail, itemsD, hin]
  | x :: y :: r, _ => 
    have : ¬ ((r.length : Int) + 1 + 1 + 1 = 2) := by omega
    simp [f_named, b_named, fnD, sSeq, sIf, sBind, eOr, e2, eN, aCons, aNil, f1, lenF, eVar, eC, neF, scalD, eqD_int, Ress.bind, sRet, conv, hk, this]
def pbody : SF := (sSeq (sIf (eAnd (e2 neF (eVar 5) (eTup aNil)) (eAnd (e1 (isF tb_str to_str) (e2 ixF (eVar 5) (eC (.int 0)))) (e1 (kIn tab_ENTRIES) (e2 ixF (eVar 5) (eC (.int 0)))))) (sSet 5 (eCall f_named (aCons (eVar 0) (aCons (eVar 5) aNil)))) sNext)
  (sSeq (sIf (eIsN (eVar 5)) (sRaise ("BadPooled" : Str) [("step" : Str)] (aCons (eVar 2) aNil)) sNext)
  (sApp 4 (eVar 5))))
def lbody : SF := (sSeq (sSet 5 (e2 ixF (eVar 1) (eVar 4)))
  (sSeq (sIf (eAnd (e2 neF (eVar 5) (eTup aNil)) (e2 inF (e2 ixF (eVar 5) (eC (.int 0))) (eN (f1 lstF) (aCons (eVar 2) aNil)))) (sSeq (sSet 6 (eAnd (e2 eqF (eN (f1 lenF) (aCons (eVar 5) aNil)) (eC (.int 2))) (eAnd (e1 (isF tb_int to_int) (e2 ixF (eVar 5) (eC (.int 1)))) (eNot (e1 (isF tb_bool to_bool) (e2 ixF (eVar 5) (eC (.int 1))))))))
  (sSeq (sIf (eOr (eNot (eTru (eVar 6))) (eOr (eNot (eChain (iLt fun i j => decide (i ≤ j)) (iLt fun i j => decide (i < j)) (eC (.int 0)) (e2 ixF (eVar 5) (eC (.int 1))) (eN (f1 lenF) (aCons (eVar 0) aNil)))) (e2 neF (e2 ixF (e2 ixF (eVar 0) (e2 ixF (eVar 5) (eC (.int 1)))) (eC (.int 0))) (e2 ixF (eVar 2) (e2 ixF (eVar 5) (eC (.int 0))))))) (sRet (eTup (aCons (eC (.str ("pooled" : Str))) (aCons (eVar 4) aNil)))) sNext)
  (sSet 5 (e2 addF (eTup (aCons (e2 ixF (eVar 5) (eC (.int 0))) aNil)) (eSl slF (e2 ixF (eVar 0) (e2 ixF (eVar 5) (eC (.int 1)))) (e1 ptF (eC (.int 1))) (eC .non)))))) sNext)
  (sApp 3 (eVar 5))))
/-- a step that may be compared -/
structure St (xs : List D) : Prop where
  sh : shD (.tup xs) = true
  odd : ∀ d ∈ xs, Odd d
  len : xs.length ≤ 10
theorem sh_nil : shD (.tup []) = true := by decide +kernel
theorem conv_nil {E : List En} : conv E [] = some [] := rfl
theorem conv_nostr {E : List En} {x : D} {r : List D} (h : ∀ s, x ≠ .str s) : conv E (x :: r) = some (x :: r) := by
  cases x <;> first | rfl | exact absurd rfl (h _)
theorem conv_nokind {E : List En} {s : Str} {r : List D} (h : kind s = none) : conv E (.str s :: r) = some (.str s :: r) := by
  unfold conv
  simp only [h]
theorem isStr_no {x : D} (h : Odd x) (hs : ∀ s, x ≠ .str s) : isF tb_str to_str x = some (.bl false) := by
  have h1 : tb_str "NoneType" = false := by decide +kernel
  have h2 : tb_str "int" = false := by decide +kernel
  have h3 : tb_str "bool" = false := by decide +kernel
  rcases h with ⟨_, rfl⟩ | rfl | ⟨_, rfl⟩ | ⟨s, rfl⟩
  · simp [isF, tyB, h2]
  · simp [isF, tyB, h1]
  · simp [isF, tyB, h3]
  · exact absurd rfl (hs s)
theorem isStr_yes (s : Str) : isF tb_str to_str (.str s) = some (.bl true) := by
  have h1 : tb_str "str" = true := by decide +kernel
  simp [isF, tyB, h1]
theorem odd_deref {d : D} (S : Sto) (h : Odd d) : deref S d = d := by
  rcases h with ⟨_, rfl⟩ | rfl | ⟨_, rfl⟩ | ⟨_, rfl⟩ <;> rfl
theorem pstep {E : List En} {xs acc : List D} {c x3 : Option D} {i : Int} (S : Sto) (hE : ∀ e ∈ E, e.2.length ≤ 10) (hs : St xs) (hl : acc.length < LIM) :
    match conv E xs with
    | some ys => pbody [some (.tup (E.map en)), c, some (.int i), x3, some (.lst acc), some (.tup xs)] S = .nx [some (.tup (E.map en)), c, some (.int i), x3, some (.lst (acc ++ [.tup ys])), some (.tup ys)] S
    | none => ∃ ρ', pbody [some (.tup (E.map en)), c, some (.int i), x3, some (.lst acc), some (.tup xs)] S = .exn (.ins "BadPooled" [("step", .int i)]) ρ' S := by
  match xs, hs with
  | [], hs =>
    rw [conv_nil]
    simp [pbody, sSeq, sIf, sBind, eAnd, e2, eVar, eC, neF, hs.sh, eqD_nil, eTup, aNil, lim_pos, lim_1, lim_2, sNext, eIsN, isNonF, sApp, hl]
  | x :: r, hs =>
    have hx := hs.odd x (by simp)
    have hd := odd_deref S hx
    by_cases hstr : ∃ s, x = .str s
    · obtain ⟨s, rfl⟩ := hstr
      cases hk : kind s with
      | none =>
        rw [conv_nokind hk]
        simp [pbody, sSeq, sIf, sBind, eAnd, e2, eVar, eC, neF, hs.sh, sh_nil, eqD_nil, eTup, aNil, lim_pos, lim_1, lim_2, sNext, eIsN, isNonF, sApp, hl, e1, ixF, ixS, atI_0, isStr_yes, kIn, kind_none hk]
      | some k =>
        have hn := named_ok (E := E) S hE hk (fun d hd => hs.odd d (List.mem_cons_of_mem _ hd))
        cases hc : conv E (.str s :: r) with
        | some ys =>
          rw [hc] at hn
          simp [pbody, sSeq, sIf, sBind, eAnd, e2, eVar, eC, neF, hs.sh, sh_nil, eqD_nil, eTup, aNil, lim_pos, lim_1, lim_2, sNext, eIsN, isNonF, sApp, hl, e1, ixF, ixS, atI_0, isStr_yes, kIn, kind_some hk, sSet, eCall, aCons, Ress.bind, hn]
        | none =>
          rw [hc] at hn
          simp [pbody, sSeq, sIf, sBind, eAnd, e2, eVar, eC, neF, hs.sh, sh_nil, eqD_nil, eTup, aNil, lim_pos, lim_1, lim_2, sNext, eIsN, isNonF, sApp, hl, e1, ixF, ixS, atI_0, isStr_yes, kIn, kind_some hk, sSet, eCall, aCons, Ress.bind, hn, sRaise]
    · have hns : ∀ s, x ≠ .str s := fun s z => hstr ⟨s, z⟩
      rw [conv_nostr hns]
      simp [pbody, sSeq, sIf, sBind, eAnd, e2, eVar, eC, neF, hs.sh, sh_nil, eqD_nil, eTup, aNil, lim_pos, lim_1, lim_2, sNext, eIsN, isNonF, sApp, hl, e1, ixF, ixS, atI_0, hd, isStr_no hx hns]
def kindsD : List (D × D) := [(.str "new", .str "class"), (.str "cast", .str "class"), (.str "is", .str "class"), (.str "get", .str "field"), (.str "put", .str "field"), (.str "call", .str "method")]
theorem kindsD_keys (s : Str) : (kindsD.map (·.1)).any (fun y => eqD y (.str s)) = (kind s).isSome := by
  have e : ∀ a b : Str, (a == b) = decide (b = a) := fun a b => by rw [beq_dec]; simp [eq_comm]
  simp only [kindsD, List.map_cons, List.map_nil, List.any_cons, List.any_nil, eqD_str, kind, tab_ENTRIES, List.lookup, e]
  by_cases h1 : ("new" : Str) = s
  · simp [h1]
  by_cases h2 : ("cast" : Str) = s
  · simp [h1, h2]
  by_cases h3 : ("is" : Str) = s
  · simp [h1, h2, h3]
  by_cases h4 : ("get" : Str) = s
  · simp [h1, h2, h3, h4]
  by_cases h5 : ("put" : Str) = s
  · simp [h1, h2, h3, h4, h5]
  by_cases h6 : ("call" : Str) = s
  · simp [h1, h2, h3, h4, h5, h6]
  simp [h1, h2, h3, h4, h5, h6]
def isK : D → Bool
  | .str s => (kind s).isSome
  | _ => false
theorem keys_in {d : D} (h : Odd d) : inF d (.lst (kindsD.map (·.1))) = some (.bl (isK d)) := by
  have hf : (kindsD.map (·.1)).all flatD = true := by decide +kernel
  have hd : flatD d = true := by rcases h with ⟨_, rfl⟩ | rfl | ⟨_, rfl⟩ | ⟨_, rfl⟩ <;> rfl
  simp only [inF, inB, inSq, hd, hf, Bool.and_self, true_or, if_true, Option.map_some]
  congr 2
  rcases h with ⟨i, rfl⟩ | rfl | ⟨b, rfl⟩ | ⟨s, rfl⟩
  · simp [kindsD, eqD, toPy, PyData.eqv, isK]
  · simp [kindsD, eqD, toPy, PyData.eqv, isK]
  · simp [kindsD, eqD, toPy, PyData.eqv, isK]
  · exact kindsD_keys s
theorem kinds_at {s k : Str} (h : kind s = some k) : ixF (.dct kindsD) (.str s) = some (.str k) := by
  simp only [ixF, ixD, lookF, kOf, Option.map_some, getK, kindsD, Option.bind_some]
  have e : ∀ a b : Str, (a == b) = decide (b = a) := fun a b => by rw [beq_dec]; simp [eq_comm]
  simp only [kind, tab_ENTRIES, List.lookup, e] at h
  simp only [List.find?, Option.some.injEq, Sum.inr.injEq]
  by_cases h1 : ("new" : Str) = s
  · simp [h1] at h ⊢; exact h
  by_cases h2 : ("cast" : Str) = s
  · simp [h1, h2] at h ⊢; exact h
  by_cases h3 : ("is" : Str) = s
  · simp [h1, h2, h3] at h ⊢; exact h
  by_cases h4 : ("get" : Str) = s
  · simp [h1, h2, h3, h4] at h ⊢; exact h
  by_cases h5 : ("put" : Str) = s
  · simp [h1, h2, h3, h4, h5] at h ⊢; exact h
  by_cases h6 : ("call" : Str) = s
  · simp [h1, h2, h3, h4, h5, h6] at h ⊢; exact h
  simp [h1, h2, h3, h4, h5, h6] at h
theorem isInt_odd {x : D} (h : x = .non ∨ (∃ b, x = .bl b) ∨ ∃ s, x = .str s) : (isF tb_int to_int x = some (.bl false)) ∨ (isF tb_int to_int x = some (.bl true) ∧ isF tb_bool to_bool x = some (.bl true)) := by
  have h1 : tb_int "NoneType" = false := by decide +kernel
  have h2 : tb_int "str" = false := by decide +kernel
  have h3 : tb_int "bool" = true := by decide +kernel
  have h4 : tb_bool "bool" = true := by decide +kernel
  rcases h with rfl | ⟨_, rfl⟩ | ⟨s, rfl⟩
  · left; simp [isF, tyB, h1]
  · right; simp [isF, tyB, h3, h4]
  · left; simp [isF, tyB, h2]
theorem isInt_int (i : Int) : isF tb_int to_int (.int i) = some (.bl true) ∧ isF tb_bool to_bool (.int i) = some (.bl false) := by
  have h1 : tb_int "int" = true := by decide +kernel
  have h2 : tb_bool "int" = false := by decide +kernel
  simp [isF, tyB, h1, h2]
theorem ixF_lst (ds : List D) (y : D) : ixF (.lst ds) y = ixS (.lst ds) y := rfl
theorem ixF_tup (ds : List D) (i : Int) : ixF (.tup ds) (.int i) = L2.atI ds i := rfl
theorem ixS_lst (ds : List D) (i : Int) : ixS (.lst ds) (.int i) = L2.atI ds i := rfl
theorem lstep {E : List En} {xs acc : List D} {code : List D} {x5 x6 : Option D} {i : Nat} (S : Sto) (hE : ∀ e ∈ E, e.2.length ≤ 10) (hs : St xs) (hl : acc.length < LIM) (hc : code[i]? = some (.tup xs)) :
    match conv E xs with
    | some ys => ∃ x6', lbody [some (.tup (E.map en)), some (.lst code), some (.dct kindsD), some (.lst acc), some (.int i), x5, x6] S = .nx [some (.tup (E.map en)), some (.lst code), some (.dct kindsD), some (.lst (acc ++ [.tup ys])), some (.int i), some (.tup ys), x6'] S
    | none => lbody [some (.tup (E.map en)), some (.lst code), some (.dct kindsD), some (.lst acc), some (.int i), x5, x6] S = .rt (.tup [.str "pooled", .int i]) S := by
  have hat : L2.atI code (i : Int) = some (.tup xs) := by rw [atI_nat (List.getElem?_eq_some_iff.mp hc).1, hc]
  match xs, hs with
  | [], hs =>
    rw [conv_nil]
    refine ⟨x6, ?_⟩
    simp [lbody, sSeq, sIf, sBind, eAnd, e2, eVar, eC, neF, hs.sh, eqD_nil, eTup, aNil, lim_pos, lim_1, lim_2, sNext, sApp, hl, sSet, ixF, ixS, hat]
  | x :: r, hs =>
    have hx := hs.odd x (by simp)
    have hd := odd_deref S hx
    have hin := keys_in hx
    have hkl : (kindsD.map (·.1)) = kindsD.map (·.1) := rfl
    by_cases hstr : ∃ s k, x = .str s ∧ kind s = some k
    · obtain ⟨s, k, rfl, hk⟩ := hstr
      have hiK : isK (.str s) = true := by simp [isK, hk]
      rw [hiK] at hin
      have hka := kinds_at hk
      match r, hs with
      | [], hs =>
        have hcv : conv E [.str s] = none := by unfold conv; simp only [hk]
        rw [hcv]
        simp [lbody, sSeq, sIf, sBind, eAnd, e2, eVar, eC, neF, hs.sh, sh_nil, eqD_nil, eTup, aNil, aCons, lim_pos, lim_1, lim_2, sNext, sApp, hl, sSet, ixF, ixS, hat, atI_0, eN, f1, lstF, hin, Ress.bind, lenF, eqF, scalD, eqD_int, eOr, eNot, eTru, truB, notF, sRet]
      | [y], hs =>
        have hy := hs.odd y (by simp)
        have hyd := odd_deref S hy
        rcases hy with ⟨p, rfl⟩ | hodd
        · obtain ⟨i1, i2⟩ := isInt_int p
          by_cases hp : 0 ≤ p ∧ p < (E.length : Int)
          · obtain ⟨e, he, hat2⟩ := E_at (E := E) hp
            rw [conv_in hk hp he]
            have hz : e.2.length + 1 < LIM := by
              have := hE e (List.mem_of_getElem? he)
              have hL : (20 : Nat) < LIM := by decide
              omega
            by_cases hek : e.1 = k
            · have hz1 : (1 : Nat) < LIM := by decide
              have hz2 : 1 + e.2.length < LIM := by omega
              rw [if_pos hek]
              refine ⟨some (.bl true), ?_⟩
              simp [lbody, sSeq, sIf, sBind, eAnd, e2, eVar, eC, neF, hs.sh, sh_nil, eqD_nil, eTup, aNil, aCons, lim_pos, lim_1, lim_2, sNext, sApp, hl, sSet, ixF_lst, ixF_tup, ixS_lst, hat, atI_0, atI_1, eN, f1, lstF, hin, Ress.bind, lenF, eqF, scalD, eqD_int, eqD_str, eOr, eNot, eTru, truB, notF, sRet, e1, hyd, eChain, iLt, i1, i2, hp.1, hp.2, hat2, en, hek, hka, eSl, ptF, optI, slF, cutD_tail, addF, hz, hz1, hz2]
            · rw [if_neg hek]
              simp [lbody, sSeq, sIf, sBind, eAnd, e2, eVar, eC, neF, hs.sh, sh_nil, eqD_nil, eTup, aNil, aCons, lim_pos, lim_1, lim_2, sNext, sApp, hl, sSet, ixF_lst, ixF_tup, ixS_lst, hat, atI_0, atI_1, eN, f1, lstF, hin, Ress.bind, lenF, eqF, scalD, eqD_int, eqD_str, eOr, eNot, eTru, truB, notF, sRet, e1, hyd, eChain, iLt, i1, i2, hp.1, hp.2, hat2, en, hek, hka]
          · rw [conv_out hk hp]
            by_cases h0 : 0 ≤ p
            · have h1 : ¬ p < (E.length : Int) := fun z => hp ⟨h0, z⟩
              simp [lbody, sSeq, sIf, sBind, eAnd, e2, eVar, eC, neF, hs.sh, sh_nil, eqD_nil, eTup, aNil, aCons, lim_pos, lim_1, lim_2, sNext, sApp, hl, sSet, ixF_lst, ixF_tup, ixS_lst, hat, atI_0, atI_1, eN, f1, lstF, hin, Ress.bind, lenF, eqF, scalD, eqD_int, eqD_str, eOr, eNot, eTru, truB, notF, sRet, e1, hyd, eChain, iLt, i1, i2, h0, h1]
            · simp [lbody, sSeq, sIf, sBind, eAnd, e2, eVar, eC, neF, hs.sh, sh_nil, eqD_nil, eTup, aNil, aCons, lim_pos, lim_1, lim_2, sNext, sApp, hl, sSet, ixF_lst, ixF_tup, ixS_lst, hat, atI_0, atI_1, eN, f1, lstF, hin, Ress.bind, lenF, eqF, scalD, eqD_int, eqD_str, eOr, eNot, eTru, truB, notF, sRet, e1, hyd, eChain, iLt, i1, i2, h0]
        · rw [conv_odd hk hodd]
          rcases isInt_odd hodd with i1 | ⟨i1, i2⟩
          · simp [lbody, sSeq, sIf, sBind, eAnd, e2, eVar, eC, neF, hs.sh, sh_nil, eqD_nil, eTup, aNil, aCons, lim_pos, lim_1, lim_2, sNext, sApp, hl, sSet, ixF_lst, ixF_tup, ixS_lst, hat, atI_0, atI_1, eN, f1, lstF, hin, Ress.bind, lenF, eqF, scalD, eqD_int, eqD_str, eOr, eNot, eTru, truB, notF, sRet, e1, hyd, eChain, iLt, i1]
          · simp [lbody, sSeq, sIf, sBind, eAnd, e2, eVar, eC, neF, hs.sh, sh_nil, eqD_nil, eTup, aNil, aCons, lim_pos, lim_1, lim_2, sNext, sApp, hl, sSet, ixF_lst, ixF_tup, ixS_lst, hat, atI_0, atI_1, eN, f1, lstF, hin, Ress.bind, lenF, eqF, scalD, eqD_int, eqD_str, eOr, eNot, eTru, truB, notF, sRet, e1, hyd, eChain, iLt, i1, i2]
      | y :: z :: r', hs =>
        have hcv : conv E (.str s :: y :: z :: r') = none := by unfold conv; simp only [hk]
        have : ¬ ((r'.length : Int) + 1 + 1 + 1 = 2) := by omega
        rw [hcv]
        simp [lbody, sSeq, sIf, sBind, eAnd, e2, eVar, eC, neF, hs.sh, sh_nil, eqD_nil, eTup, aNil, aCons, lim_pos, lim_1, lim_2, sNext, sApp, hl, sSet, ixF, ixS, hat, atI_0, eN, f1, lstF, hin, Ress.bind, lenF, eqF, scalD, eqD_int, eOr, eNot, eTru, truB, notF, sRet, this]
    · have hcv : conv E (x :: r) = some (x :: r) := by
        by_cases hst : ∃ s, x = .str s
        · obtain ⟨s, rfl⟩ := hst
          exact conv_nokind (by cases q : kind s with | none => rfl | some k => exact absurd ⟨s, k, rfl, q⟩ hstr)
        · exact conv_nostr fun s z => hst ⟨s, z⟩
      have hb : isK x = false := by
        unfold isK
        split
        · rename_i s
          cases q : kind s with
          | none => rfl
          | some k => exact absurd ⟨s, k, rfl, q⟩ hstr
        · rfl
      rw [hb] at hin
      rw [hcv]
      refine ⟨x6, ?_⟩
      simp [lbody, sSeq, sIf, sBind, eAnd, e2, eVar, eC, neF, hs.sh, sh_nil, eqD_nil, eTup, aNil, aCons, lim_pos, lim_1, lim_2, sNext, sApp, hl, sSet, ixF, ixS, hat, atI_0, eN, f1, lstF, hin, Ress.bind, hd]
def convs (E : List En) : Nat → List (List D) → Sum Nat (List (List D))
  | _, [] => .inr []
  | i, xs :: r => match conv E xs with
    | none => .inl i
    | some ys => match convs E (i + 1) r with
      | .inl j => .inl j
      | .inr yss => .inr (ys :: yss)
abbrev pg : GF := gtTup (gtCons (gtName 2) (gtCons (gtName 5) gtNil))
theorem ploop {E : List En} {c x3 : Option D} (S : Sto) (hE : ∀ e ∈ E, e.2.length ≤ 10) : ∀ (xss : List (List D)) (i : Nat) (acc : List D) (z2 z5 : Option D), (∀ xs ∈ xss, St xs) → acc.length + xss.length < LIM →
    match convs E i xss with
    | .inr yss => ∃ z2' z5', forD pg pbody (enD i (xss.map D.tup)) [some (.tup (E.map en)), c, z2, x3, some (.lst acc), z5] S = .nx [some (.tup (E.map en)), c, z2', x3, some (.lst (acc ++ yss.map D.tup)), z5'] S
    | .inl j => ∃ ρ', forD pg pbody (enD i (xss.map D.tup)) [some (.tup (E.map en)), c, z2, x3, some (.lst acc), z5] S = .exn (.ins "BadPooled" [("step", .int (j : Int))]) ρ' S
  | [], i, acc, z2, z5, _, _ => ⟨z2, z5, by simp [enD, forD]⟩
  | xs :: r, i, acc, z2, z5, hs, hl => by
    have h1 := pstep (E := E) (c := c) (x3 := x3) (i := (i : Int)) S hE (hs xs List.mem_cons_self) (acc := acc) (by simp at hl; omega)
    unfold convs
    cases hc : conv E xs with
    | none =>
      rw [hc] at h1
      obtain ⟨ρ', h1⟩ := h1
      refine ⟨ρ', ?_⟩
      simp only [List.map_cons, enD, forD]
      show (match pbody [some (.tup (E.map en)), c, some (.int i), x3, some (.lst acc), some (.tup xs)] S with
        | .nx ρ2 S2 => _
        | .ct ρ2 S2 => _
        | .bk ρ2 S2 => _
        | r => r) = _
      rw [h1]
    | some ys =>
      rw [hc] at h1
      have ih := ploop S hE (c := c) (x3 := x3) r (i + 1) (acc ++ [.tup ys]) (some (.int i)) (some (.tup ys)) (fun x hx => hs x (List.mem_cons_of_mem _ hx)) (by simp at hl ⊢; omega)
      have e : forD pg pbody (enD i ((xs :: r).map D.tup)) [some (.tup (E.map en)), c, z2, x3, some (.lst acc), z5] S = forD pg pbody (enD (i + 1) (r.map D.tup)) [some (.tup (E.map en)), c, some (.int i), x3, some (.lst (acc ++ [.tup ys])), some (.tup ys)] S := by
        simp only [List.map_cons, enD, forD]
        show (match pbody [some (.tup (E.map en)), c, some (.int i), x3, some (.lst acc), some (.tup xs)] S with
          | .nx ρ2 S2 => _
          | .ct ρ2 S2 => _
          | .bk ρ2 S2 => _
          | r => r) = _
        rw [h1]
      rw [e]
      cases hr : convs E (i + 1) r with
      | inl j => rw [hr] at ih; exact ih
      | inr yss =>
        rw [hr] at ih
        obtain ⟨z2', z5', ih⟩ := ih
        exact ⟨z2', z5', by rw [ih]; simp⟩
theorem lloop {E : List En} (S : Sto) (hE : ∀ e ∈ E, e.2.length ≤ 10) {code : List D} : ∀ (xss : List (List D)) (i : Nat) (acc : List D) (x4 x5 x6 : Option D), code.drop i = xss.map D.tup → (∀ xs ∈ xss, St xs) → acc.length + xss.length < LIM →
    match convs E i xss with
    | .inr yss => ∃ x4' x5' x6', forD (gtName 4) lbody (intsD i xss.length) [some (.tup (E.map en)), some (.lst code), some (.dct kindsD), some (.lst acc), x4, x5, x6] S = .nx [some (.tup (E.map en)), some (.lst code), some (.dct kindsD), some (.lst (acc ++ yss.map D.tup)), x4', x5', x6'] S
    | .inl j => forD (gtName 4) lbody (intsD i xss.length) [some (.tup (E.map en)), some (.lst code), some (.dct kindsD), some (.lst acc), x4, x5, x6] S = .rt (.tup [.str "pooled", .int (j : Int)]) S
  | [], i, acc, x4, x5, x6, _, _, _ => ⟨x4, x5, x6, by simp [intsD, forD]⟩
  | xs :: r, i, acc, x4, x5, x6, hd, hs, hl => by
    have hci : code[i]? = some (.tup xs) := by
      have := congrArg (fun l => l[0]?) hd
      simpa using this
    have hd' : code.drop (i + 1) = r.map D.tup := by
      have := congrArg List.tail hd
      simpa [List.tail_drop] using this
    have h1 := lstep (E := E) (x5 := x5) (x6 := x6) S hE (hs xs List.mem_cons_self) (acc := acc) (by simp at hl; omega) hci
    unfold convs
    cases hc : conv E xs with
    | none =>
      rw [hc] at h1
      simp only [List.length_cons, intsD, forD]
      show (match lbody [some (.tup (E.map en)), some (.lst code), some (.dct kindsD), some (.lst acc), some (.int i), x5, x6] S with
        | .nx ρ2 S2 => _
        | .ct ρ2 S2 => _
        | .bk ρ2 S2 => _
        | r => r) = _
      rw [h1]
    | some ys =>
      rw [hc] at h1
      obtain ⟨x6', h1⟩ := h1
      have ih := lloop S hE (code := code) r (i + 1) (acc ++ [.tup ys]) (some (.int i)) (some (.tup ys)) x6' hd' (fun x hx => hs x (List.mem_cons_of_mem _ hx)) (by simp at hl ⊢; omega)
      have e : forD (gtName 4) lbody (intsD i (xs :: r).length) [some (.tup (E.map en)), some (.lst code), some (.dct kindsD), some (.lst acc), x4, x5, x6] S = forD (gtName 4) lbody (intsD ((i + 1 : Nat) : Int) r.length) [some (.tup (E.map en)), some (.lst code), some (.dct kindsD), some (.lst (acc ++ [.tup ys])), some (.int i), some (.tup ys), x6'] S := by
        simp only [List.length_cons, intsD, forD]
        show (match lbody [some (.tup (E.map en)), some (.lst code), some (.dct kindsD), some (.lst acc), some (.int i), x5, x6] S with
          | .nx ρ2 S2 => _
          | .ct ρ2 S2 => _
          | .bk ρ2 S2 => _
          | r => r) = _
        rw [h1]
        rfl
      rw [e]
      cases hr : convs E (i + 1) r with
      | inl j => rw [hr] at ih; exact ih
      | inr yss =>
        rw [hr] at ih
        obtain ⟨x4', x5', x6'', ih⟩ := ih
        exact ⟨x4', x5', x6'', by rw [ih]; simp⟩
def res (E : List En) (xss : List (List D)) : D := match convs E 0 xss with
  | .inr yss => .tup (yss.map D.tup)
  | .inl j => .tup [.str "pooled", .int (j : Int)]
end K38

set_option maxHeartbeats 4000000
namespace K38
open DL PySem PySem.Spec PyProof.Rows L2
theorem convs_len {E : List En} : ∀ {xss : List (List D)} {i : Nat} {yss : List (List D)}, convs E i xss = .inr yss → yss.length = xss.length
  | [], i, yss, h => by cases h; rfl
  | xs :: r, i, yss, h => by
    unfold convs at h
    cases hc : conv E xs with
    | none => rw [hc] at h; cases h
    | some ys =>
      rw [hc] at h
      cases hr : convs E (i + 1) r with
      | inl j => rw [hr] at h; cases h
      | inr zss => rw [hr] at h; cases h; simp [convs_len hr]
theorem lim_50 {n : Nat} (h : n ≤ 500) : n < LIM := Nat.lt_of_le_of_lt h (by decide)
theorem kinds_disp (ρ : DEnv) (S : Sto) : eDisp (((eC (.str ("new" : Str))), (eC (.str ("class" : Str)))) :: (((eC (.str ("cast" : Str))), (eC (.str ("class" : Str)))) :: (((eC (.str ("is" : Str))), (eC (.str ("class" : Str)))) :: (((eC (.str ("get" : Str))), (eC (.str ("field" : Str)))) :: (((eC (.str ("put" : Str))), (eC (.str ("field" : Str)))) :: (((eC (.str ("call" : Str))), (eC (.str ("method" : Str)))) :: [])))))) ρ S = .ok (.dct kindsD) S := by kernel_rfl
theorem due_eq : b__law_due = sSeq (sSet 2 (eDisp (((eC (.str ("new" : Str))), (eC (.str ("class" : Str)))) :: (((eC (.str ("cast" : Str))), (eC (.str ("class" : Str)))) :: (((eC (.str ("is" : Str))), (eC (.str ("class" : Str)))) :: (((eC (.str ("get" : Str))), (eC (.str ("field" : Str)))) :: (((eC (.str ("put" : Str))), (eC (.str ("field" : Str)))) :: (((eC (.str ("call" : Str))), (eC (.str ("method" : Str)))) :: []))))))))
  (sSeq (sSet 3 (eLst aNil)) (sSeq (sFor (iRange1 (aCons (eN (f1 lenF) (aCons (eVar 1) aNil)) aNil)) (gtName 4) lbody) (sRet (eN (f1 tupF) (aCons (eVar 3) aNil))))) := rfl
theorem due_ok {E : List En} {xss : List (List D)} (S : Sto) (hE : ∀ e ∈ E, e.2.length ≤ 10) (hs : ∀ xs ∈ xss, St xs) (hl : xss.length ≤ 100) : f__law_due [.tup (E.map en), .lst (xss.map D.tup)] S = .ok (res E xss) S := by
  have h1 := lloop (E := E) S hE (code := xss.map D.tup) xss 0 [] none none none (by simp) hs (lim_50 (by simp; omega))
  have hn : xss.length < LIM := lim_50 (by omega)
  have hn2 : -(4611686018427387904 : Int) ≤ (xss.length : Int) := by omega
  have hd : dInts 0 xss.length = intsD 0 xss.length := dInts_from _ _
  unfold res
  cases hc : convs E 0 xss with
  | inl j =>
    rw [hc] at h1
    have h1 : forD (gtName 4) lbody (intsD 0 xss.length) [some (.tup (E.map en)), some (.lst (xss.map D.tup)), some (.dct kindsD), some (.lst []), none, none, none] S = .rt (.tup [.str "pooled", .int (j : Int)]) S := h1
    simp [f__law_due, due_eq, fnD, sSeq, sSet, sBind, kinds_disp, eLst, aNil, lim_pos, sFor, iRange1, aCons, eN, eVar, f1, lenF, Ress.bind, hn, hn2, hd, h1]
  | inr yss =>
    rw [hc] at h1
    obtain ⟨x4, x5, x6, h1⟩ := h1
    have h1 : forD (gtName 4) lbody (intsD 0 xss.length) [some (.tup (E.map en)), some (.lst (xss.map D.tup)), some (.dct kindsD), some (.lst []), none, none, none] S = _ := h1
    simp [f__law_due, due_eq, fnD, sSeq, sSet, sBind, kinds_disp, eLst, aNil, lim_pos, sFor, iRange1, aCons, eN, eVar, f1, lenF, Ress.bind, hn, hn2, hd, h1, sRet, tupF]
/-! ### unpooled, told -/
theorem islist_ok (ds : List D) (n : Int) (S : Sto) : f_is_list [.tup ds, .int n] S = .ok (.bl (decide ((ds.length : Int) ≤ n))) S := by
  have h1 : tb_tuple "tuple" = true := by decide +kernel
  simp [f_is_list, b_is_list, fnD, sRet, sBind, eAnd, e1, e2, eVar, isF, tyB, h1, iLt, eN, aCons, aNil, f1, lenF, Ress.bind]
abbrev p1g : GF := gtTup (gtCons (gtName 2) (gtCons (gtName 3) gtNil))
def p1body : SF := sIf (eNot (eCall f_has_form (aCons (eVar 3) aNil))) (sRaise ("BadPool" : Str) [("index" : Str)] (aCons (eVar 2) aNil)) sNext
/-- the first loop: the first entry that has no form -/
theorem floop {e c z4 z5 : Option D} (S : Sto) : ∀ (ds : List D) (i : Nat) (z2 z3 : Option D), (∀ d ∈ ds, f_has_form [d] S = .ok (.bl true) S) → ∃ z2' z3', forD p1g p1body (enD i ds) [e, c, z2, z3, z4, z5] S = .nx [e, c, z2', z3', z4, z5] S
  | [], i, z2, z3, _ => ⟨z2, z3, rfl⟩
  | d :: r, i, z2, z3, h => by
    obtain ⟨z2', z3', ih⟩ := floop S r (i + 1) (some (.int i)) (some d) fun x hx => h x (List.mem_cons_of_mem _ hx)
    refine ⟨z2', z3', ?_⟩
    have hb : p1body [e, c, some (.int i), some d, z4, z5] S = .nx [e, c, some (.int i), some d, z4, z5] S := by
      simp [p1body, sIf, sBind, eNot, notF, eCall, aCons, aNil, eVar, Ress.bind, h d List.mem_cons_self, sNext]
    simp only [enD, forD]
    show (match p1body [e, c, some (.int i), some d, z4, z5] S with
      | .nx ρ2 S2 => _
      | .ct ρ2 S2 => _
      | .bk ρ2 S2 => _
      | r => r) = _
    rw [hb]
    exact ih
theorem unpooled_eq : b_unpooled = sSeq (sIf (eNot (eCall f_is_list (aCons (eVar 0) (aCons (eC (.int 99)) aNil)))) (sRaise ("BadPool" : Str) [("index" : Str)] (aCons (eC .non) aNil)) sNext)
  (sSeq (sFor (iEn (aCons (eVar 0) aNil)) p1g p1body)
  (sSeq (sIf (eOr (eNot (eCall f_is_list (aCons (eVar 1) (aCons (eC (.int 20)) aNil)))) (eNot (eN (f1 allF) (aCons (eLc [5] (iSeq (eVar 1)) (gtName 5) eYes (e1 (isF tb_tuple to_tuple) (eVar 5))) aNil)))) (sRaise ("BadPooled" : Str) [("step" : Str)] (aCons (eC .non) aNil)) sNext)
  (sSeq (sSet 4 (eLst aNil))
  (sSeq (sFor (iEn (aCons (eVar 1) aNil)) pg pbody)
  (sRet (eN (f1 tupF) (aCons (eVar 4) aNil))))))) := rfl
theorem all_tup {ρ : DEnv} {xss : List (List D)} (S : Sto) (h : ρ[1]? = some (some (.tup (xss.map D.tup)))) (h5 : 5 < ρ.length) : eN (f1 allF) (aCons (eLc [5] (iSeq (eVar 1)) (gtName 5) eYes (e1 (isF tb_tuple to_tuple) (eVar 5))) aNil) ρ S = .ok (.bl true) S := by
  have h1 : tb_tuple "tuple" = true := by decide +kernel
  have hlc := lcD_pure (g := gtName 5) (fc := eYes) (fe := e1 (isF tb_tuple to_tuple) (eVar 5)) (ρ := wipeD ρ [5]) (S := S) (pc := fun _ => true) (pe := fun _ => .bl true) (xs := xss.map D.tup) (acc := []) (fun x hx => by
    obtain ⟨xs, _, rfl⟩ := List.mem_map.mp hx
    refine ⟨_, rfl, rfl, fun _ => ?_⟩
    have : ((wipeD ρ [5]).set 5 (some (D.tup xs)))[5]? = some (some (D.tup xs)) := List.getElem?_set_self (by simp [wipeD]; exact h5)
    simp only [e1, eVar, this, Res.bind_ok, deref_tup, isF, tyB, Option.map_some, h1, Res.ofOpt_some])
  have hb : blsOf ((xss.map D.tup).map fun _ => D.bl true) = some (xss.map fun _ => true) := by
    clear hlc h
    induction xss with
    | nil => rfl
    | cons x r ih => simp only [List.map_cons, blsOf]; simp only [List.map_map] at ih; simp only [List.map_map]; rw [ih]; rfl
  have hall : (xss.map fun _ => true).all id = true := by simp
  have hfil : (xss.map D.tup).filter (fun _ => true) = xss.map D.tup := List.filter_eq_self.mpr (by simp)
  rw [hfil] at hlc
  simp only [eN, aCons, aNil, eLc, iSeq, eVar, h, hlc, Ress.bind, List.map_cons, List.map_nil, List.nil_append, deref_lst, f1, allF, hb, Option.map_some, hall, Res.ofOpt_some]
theorem told_ok {E : List En} {xss : List (List D)} (S : Sto) (hE : ∀ e ∈ E, e.2.length ≤ 10) (hf : ∀ e ∈ E, f_has_form [en e] S = .ok (.bl true) S) (hEl : E.length ≤ 99) (hs : ∀ xs ∈ xss, St xs) (hl : xss.length ≤ 20) : f__law_told [.tup (E.map en), .tup (xss.map D.tup)] S = .ok (res E xss) S := by
  have hn : xss.length < LIM := lim_50 (by omega)
  have hn2 : E.length < LIM := lim_50 (by omega)
  obtain ⟨z2, z3, hfl⟩ := floop (e := some (.tup (E.map en))) (c := some (.tup (xss.map D.tup))) (z4 := none) (z5 := none) S (E.map en) 0 none none (fun d hd => by
    obtain ⟨e, he, rfl⟩ := List.mem_map.mp hd
    exact hf e he)
  have h1 := ploop (E := E) (c := some (.tup (xss.map D.tup))) (x3 := z3) S hE xss 0 [] z2 none hs (lim_50 (by simp; omega))
  have ha := all_tup (ρ := [some (.tup (E.map en)), some (.tup (xss.map D.tup)), z2, z3, none, none]) (xss := xss) S rfl (by simp)
  have hle : (E.length : Int) ≤ 99 := by omega
  have hle2 : (xss.length : Int) ≤ 20 := by omega
  unfold res
  cases hc : convs E 0 xss with
  | inl j =>
    rw [hc] at h1
    obtain ⟨ρ', h1⟩ := h1
    have hu : f_unpooled [.tup (E.map en), .tup (xss.map D.tup)] S = .exn (.ins "BadPooled" [("step", .int (j : Int))]) S := by
      simp [f_unpooled, unpooled_eq, fnD, sSeq, sIf, sBind, eNot, notF, eCall, aCons, aNil, eVar, eC, Ress.bind, islist_ok, hle, hle2, sNext, sFor, iEn, itemsD, hn, hn2, hfl, eOr, ha, sSet, eLst, lim_pos, h1]
    have hne : ¬ (Str.ofString "BadPooled" = Str.ofString "BadPool") := by decide +kernel
    simp [f__law_told, b__law_told, fnD, sTry, sRet, sBind, eCall, aCons, aNil, eVar, Ress.bind, hu, hne, handD, to_BadPool, to_BadPooled, goneS, eTup, eC, eXf, lim_2, List.lookup]
  | inr yss =>
    rw [hc] at h1
    obtain ⟨z2', z5', h1⟩ := h1
    have hu : f_unpooled [.tup (E.map en), .tup (xss.map D.tup)] S = .ok (.tup (yss.map D.tup)) S := by
      have hr : sRet (eN (f1 tupF) (aCons (eVar 4) aNil)) [some (.tup (E.map en)), some (.tup (xss.map D.tup)), z2', z3, some (.lst ([] ++ yss.map D.tup)), z5'] S = .rt (.tup (yss.map D.tup)) S := by
        simp [sRet, sBind, eN, aCons, aNil, eVar, f1, tupF, Ress.bind]
      simp [f_unpooled, unpooled_eq, fnD, sSeq, sIf, sBind, eNot, notF, eCall, aCons, aNil, eVar, eC, Ress.bind, islist_ok, hle, hle2, sNext, sFor, iEn, itemsD, hn, hn2, hfl, eOr, ha, sSet, eLst, lim_pos, h1]
      simp only [List.nil_append] at hr
      rw [hr]
    simp [f__law_told, b__law_told, fnD, sTry, sRet, sBind, eCall, aCons, aNil, eVar, Ress.bind, hu]
end K38

set_option maxHeartbeats 4000000
namespace K38
open DL PySem PySem.Spec PyProof.Rows L2
/-! ### alike -/
def al : Nat → D → Prop
  | 0, _ => False
  | n + 1, d => Odd d ∨ ∃ ds, d = .tup ds ∧ ds.length < 1000 ∧ ∀ x ∈ ds, al n x
theorem isF_tl_tup (ds : List D) : isF tb_tuple_list to_tuple_list (.tup ds) = some (.bl true) := by
  have h1 : tb_tuple_list "tuple" = true := by decide +kernel
  simp [isF, tyB, h1]
theorem isF_tl_odd {d : D} (h : Odd d) : isF tb_tuple_list to_tuple_list d = some (.bl false) := by
  have h1 : tb_tuple_list "NoneType" = false := by decide +kernel
  have h2 : tb_tuple_list "int" = false := by decide +kernel
  have h3 : tb_tuple_list "bool" = false := by decide +kernel
  have h4 : tb_tuple_list "str" = false := by decide +kernel
  rcases h with ⟨_, rfl⟩ | rfl | ⟨_, rfl⟩ | ⟨_, rfl⟩ <;> simp [isF, tyB, h1, h2, h3, h4]
theorem isF_l_tup (ds : List D) : isF tb_list to_list (.tup ds) = some (.bl false) := by
  have h1 : tb_list "tuple" = false := by decide +kernel
  simp [isF, tyB, h1]
theorem sh_nilL : shD (.lst []) = true := by decide +kernel
theorem alike_ok : ∀ (n : Nat) (d : D) (S : Sto), al n d → f__law_alike n [d, d] S = .ok (.bl true) S
  | 0, d, S, h => h.elim
  | n + 1, d, S, h => by
    rcases h with h | ⟨ds, rfl, hl, hd⟩
    · have h1 := isF_tl_odd h
      have hder := odd_deref S h
      have hs : isF tb_str to_str d = some (.bl (match d with | .str _ => true | _ => false)) := by
        have k1 : tb_str "NoneType" = false := by decide +kernel
        have k2 : tb_str "int" = false := by decide +kernel
        have k3 : tb_str "bool" = false := by decide +kernel
        have k4 : tb_str "str" = true := by decide +kernel
        rcases h with ⟨_, rfl⟩ | rfl | ⟨_, rfl⟩ | ⟨_, rfl⟩ <;> simp [isF, tyB, k1, k2, k3, k4]
      rcases h with ⟨i, rfl⟩ | rfl | ⟨b, rfl⟩ | ⟨s, rfl⟩
      · obtain ⟨i1, i2⟩ := isInt_int i
        simp [f__law_alike, b__law_alike, fnD, sSeq, sIf, sBind, e1, e2, eVar, eC, h1, hs, sNext, eOr, eAnd, eIsN, isNonF, sRet, i1, i2, eqF, scalD, eqD_bl, eqD_int]
      · simp [f__law_alike, b__law_alike, fnD, sSeq, sIf, sBind, e1, e2, eVar, eC, h1, hs, sNext, eOr, eAnd, eIsN, isNonF, sRet, eqF, scalD, eqD_bl]
        simp [eqD, toPy, PyData.eqv]
      · have i1 : isF tb_int to_int (.bl b) = some (.bl true) := by
          have h3 : tb_int "bool" = true := by decide +kernel
          simp [isF, tyB, h3]
        have i2 : isF tb_bool to_bool (.bl b) = some (.bl true) := by
          have h3 : tb_bool "bool" = true := by decide +kernel
          simp [isF, tyB, h3]
        simp [f__law_alike, b__law_alike, fnD, sSeq, sIf, sBind, e1, e2, eVar, eC, h1, hs, sNext, eOr, eAnd, eIsN, isNonF, sRet, i1, i2, eqF, scalD, eqD_bl, eqD_int]
      · simp [f__law_alike, b__law_alike, fnD, sSeq, sIf, sBind, e1, e2, eVar, eC, h1, hs, sNext, eOr, eAnd, eIsN, isNonF, sRet, eqF, scalD, eqD_bl, eqD_str]
    · have hn : ds.length < LIM := lim_of (by omega)
      have hn2 : -(4611686018427387904 : Int) ≤ (ds.length : Int) := by omega
      have hlc := lcD_pure (g := gtName 2) (fc := eNot (eCall (f__law_alike n) (aCons (e2 ixF (eVar 0) (eVar 2)) (aCons (e2 ixF (eVar 1) (eVar 2)) aNil)))) (fe := eVar 2) (ρ := [some (.tup ds), some (.tup ds), none]) (S := S) (pc := fun _ => false) (pe := id) (xs := dInts 0 ds.length) (acc := []) (fun x hx => by
        obtain ⟨i, hi⟩ := List.getElem?_of_mem hx
        obtain ⟨hlt, rfl⟩ := dInts_get hi
        refine ⟨_, rfl, ?_, fun z => by cases z⟩
        have hat : L2.atI ds (0 + (i : Int)) = some ds[i] := by rw [Int.zero_add, atI_nat hlt, List.getElem?_eq_getElem hlt]
        have ih := alike_ok n ds[i] S (hd _ (List.getElem_mem hlt))
        simp only [Int.zero_add] at hat
        simp [eNot, eCall, aCons, aNil, e2, eVar, ixF, ixS, hat, Ress.bind, ih, notF])
      have hfil : (dInts 0 ds.length).filter (fun _ => false) = [] := by simp
      rw [hfil] at hlc
      simp [f__law_alike, b__law_alike, fnD, sSeq, sIf, sBind, e1, e2, eVar, eC, isF_tl_tup, isF_l_tup, sNext, eOr, eNot, notF, neF, eqF, scalD, eqD_bl, eqD_int, eN, aCons, aNil, f1, lenF, Ress.bind, sRet, eLc, iRange1, hn, hn2, wipeD, hlc, eLst, lim_pos, sh_nilL, eqD_nilL]
end K38

set_option maxHeartbeats 4000000
namespace K38
open DL PySem PySem.Spec PyProof.Rows L2
def someE : EF := (eLst (aCons (eTup (aCons (eC (.str ("class" : Str))) (aCons (eC (.str ("box" : Str))) aNil))) (aCons (eTup (aCons (eC (.str ("class" : Str))) (aCons (eC (.str ("top" : Str))) aNil))) (aCons (eTup (aCons (eC (.str ("field" : Str))) (aCons (eC (.str ("box" : Str))) (aCons (eC (.str ("x" : Str))) aNil)))) (aCons (eTup (aCons (eC (.str ("method" : Str))) (aCons (eC (.str ("red" : Str))) (aCons (eC (.str ("show" : Str))) aNil)))) (aCons (eTup (aCons (eC (.str ("class" : Str))) (aCons (eC (.str ("num" : Str))) aNil))) aNil))))))
def entE : EF := (eN (f1 tupF) (aCons (eLc [7] (iRange1 (aCons (eCall f__law_taken (aCons (eVar 1) (aCons (eC (.int 7)) aNil))) aNil)) (gtName 7) eYes (eCall f__law_pick (aCons (eVar 1) (aCons (eVar 2) aNil)))) aNil))
def goodS : SF := (sPar [5, 6] (aCons (eDisp (((eC (.str ("class" : Str))), (eLst (aCons (eC (.str ("new" : Str))) (aCons (eC (.str ("cast" : Str))) (aCons (eC (.str ("is" : Str))) aNil))))) :: (((eC (.str ("field" : Str))), (eLst (aCons (eC (.str ("get" : Str))) (aCons (eC (.str ("put" : Str))) aNil)))) :: (((eC (.str ("method" : Str))), (eLst (aCons (eC (.str ("call" : Str))) aNil))) :: [])))) (aCons (eLst aNil) aNil)))
def cA : SF := (sSeq (sSet 8 (eCall f__law_taken (aCons (eVar 1) (aCons (eN (f1 lenF) (aCons (eVar 4) aNil)) aNil))))
  (sApp 6 (eTup (aCons (eCall f__law_pick (aCons (eVar 1) (aCons (e2 ixF (eVar 5) (e2 ixF (e2 ixF (eVar 4) (eVar 8)) (eC (.int 0)))) aNil))) (aCons (eVar 8) aNil)))))
def cB : SF := (sApp 6 (eCall f__law_pick (aCons (eVar 1) (aCons (eLst (aCons (eTup (aCons (eC (.str ("push" : Str))) (aCons (eC (.int 3)) aNil))) (aCons (eTup aNil) (aCons (eTup (aCons (eC (.str ("go" : Str))) (aCons (eC (.int 1)) (aCons (eC (.int 2)) aNil)))) (aCons (eTup (aCons (eC (.int 5)) aNil)) (aCons (eTup (aCons (eC .non) aNil)) (aCons (eTup (aCons (eC (.str ("give" : Str))) aNil)) (aCons (eTup (aCons (eC (.str ("New" : Str))) (aCons (eC (.int 0)) aNil))) aNil)))))))) aNil))))
def cC : SF := (sSeq (sPar [9, 10] (aCons (eCall f__law_pick (aCons (eVar 1) (aCons (eLst (aCons (eC (.str ("new" : Str))) (aCons (eC (.str ("is" : Str))) (aCons (eC (.str ("get" : Str))) (aCons (eC (.str ("call" : Str))) aNil))))) aNil))) (aCons (eLst (aCons (eC (.int 0)) (aCons (eN (f1 lenF) (aCons (eVar 4) aNil)) (aCons (e1 negF (eC (.int 1))) (aCons (eC (.bl true)) (aCons (eC (.str ("box" : Str))) (aCons (eC .non) aNil))))))) aNil)))
  (sApp 6 (eCall f__law_pick (aCons (eVar 1) (aCons (eLst (aCons (eTup (aCons (eVar 9) (aCons (eCall f__law_pick (aCons (eVar 1) (aCons (eVar 10) aNil))) aNil))) (aCons (eTup (aCons (eVar 9) aNil)) (aCons (eTup (aCons (eVar 9) (aCons (eC (.int 0)) (aCons (eC (.int 0)) aNil)))) aNil)))) aNil)))))
def cbody : SF := (sIf (eAnd (e2 neF (eVar 4) (eTup aNil)) (e2 (iLt fun i j => decide (j < i)) (eCall f__law_taken (aCons (eVar 1) (aCons (eC (.int 6)) aNil))) (eC (.int 0)))) cA (sIf (e2 (iLt fun i j => decide (j < i)) (eCall f__law_taken (aCons (eVar 1) (aCons (eC (.int 3)) aNil))) (eC (.int 0))) cB cC))
def crange : IF := (iRange1 (aCons (eCall f__law_taken (aCons (eVar 1) (aCons (e2 ixF (eLst (aCons (eC (.int 6)) (aCons (eC (.int 21)) aNil))) (eCall f__law_taken (aCons (eVar 1) (aCons (eC (.int 2)) aNil)))) aNil))) aNil))
def chk : SF := (sIf (eNot (eCall (f__law_alike 9) (aCons (eCall f__law_told (aCons (eVar 4) (aCons (eN (f1 tupF) (aCons (eVar 6) aNil)) aNil))) (aCons (eCall f__law_due (aCons (eVar 4) (aCons (eVar 6) aNil))) aNil)))) (sRet (eC (.bl false))) sNext)
def w1 : SF := (sSet 11 (eLst (aCons (eC .non) (aCons (eTup aNil) (aCons (eTup (aCons (eC (.str ("class" : Str))) aNil)) (aCons (eTup (aCons (eC (.str ("class" : Str))) (aCons (eC (.str ("box" : Str))) (aCons (eC (.str ("x" : Str))) aNil)))) (aCons (eTup (aCons (eC (.str ("field" : Str))) (aCons (eC (.str ("box" : Str))) aNil))) (aCons (eTup (aCons (eC (.str ("thing" : Str))) (aCons (eC (.str ("box" : Str))) aNil))) (aCons (eTup (aCons (eC (.str ("class" : Str))) (aCons (eC (.str ("Box" : Str))) aNil))) (aCons (eC (.int 3)) aNil))))))))))
def w2 : SF := (sSet 11 (e2 addF (eVar 11) (eLst (aCons (eTup (aCons (eC (.str ("class" : Str))) (aCons (eC (.str ("" : Str))) aNil))) (aCons (eTup (aCons (eC (.str ("class" : Str))) (aCons (eC (.str ("toolong" : Str))) aNil))) (aCons (eLst (aCons (eC (.str ("class" : Str))) (aCons (eC (.str ("box" : Str))) aNil))) (aCons (eTup (aCons (eC (.str ("class" : Str))) (aCons (eC .non) aNil))) (aCons (eTup (aCons (eC .non) (aCons (eC (.str ("box" : Str))) aNil))) aNil))))))))
def wb : SF := (sIf (e2 neF (eCall f__law_told (aCons (e2 addF (eVar 4) (eTup (aCons (eVar 12) (aCons (eC .non) aNil)))) (aCons (eTup aNil) aNil))) (eTup (aCons (eC (.str ("pool" : Str))) (aCons (eN (f1 lenF) (aCons (eVar 4) aNil)) aNil)))) (sRet (eC (.bl false))) sNext)
def turn : SF := sSeq (sSet 4 entE) (sSeq goodS (sSeq (sFor crange (gtName 7) cbody) (sSeq chk (sSeq w1 (sSeq w2 (sFor (iSeq (eVar 11)) (gtName 12) wb))))))
def rest : SF := (sSeq (sFor (iSeq (eLst (aCons (eC .non) (aCons (eN (f1 lstF) (aCons (eVar 2) aNil)) (aCons (e2 repTF (eTup (aCons (e2 ixF (eVar 2) (eC (.int 0))) aNil)) (eC (.int 100))) (aCons (eC (.int 3)) (aCons eNewK aNil))))))) (gtName 12) (sIf (e2 neF (eCall f__law_told (aCons (eVar 12) (aCons (eTup aNil) aNil))) (eTup (aCons (eC (.str ("pool" : Str))) (aCons (eC .non) aNil)))) (sRet (eC (.bl false))) sNext))
  (sSeq (sFor (iSeq (eLst (aCons (eC .non) (aCons (eLst (aCons (eTup (aCons (eC (.str ("push" : Str))) (aCons (eC (.int 3)) aNil))) aNil)) (aCons (e2 repTF (eTup (aCons (eTup (aCons (eC (.str ("push" : Str))) (aCons (eC (.int 3)) aNil))) aNil)) (eC (.int 21))) (aCons (eTup (aCons (eC .non) aNil)) (aCons (eTup (aCons (eTup (aCons (eC (.str ("push" : Str))) (aCons (eC (.int 3)) aNil))) (aCons (eLst (aCons (eC (.str ("push" : Str))) (aCons (eC (.int 3)) aNil))) aNil))) (aCons (eC (.str ("push" : Str))) (aCons (eC (.int 3)) aNil))))))))) (gtName 12) (sIf (e2 neF (eCall f__law_told (aCons (eTup aNil) (aCons (eVar 12) aNil))) (eTup (aCons (eC (.str ("pooled" : Str))) (aCons (eC .non) aNil)))) (sRet (eC (.bl false))) sNext))
  (sRet (e2 eqF (eN (f1 lenF) (aCons (eCall f__law_told (aCons (e2 repTF (eTup (aCons (e2 ixF (eVar 2) (eC (.int 0))) aNil)) (eC (.int 99))) (aCons (e2 repTF (eTup (aCons (eTup (aCons (eC (.str ("new" : Str))) (aCons (eC (.int 98)) aNil))) aNil)) (eC (.int 20))) aNil))) aNil)) (eC (.int 20))))))
theorem law_eq : b_law = sSeq (sNewO 1 (aCons (eVar 0) (aCons (eC (.int 0)) (aCons (eC (.int 2938)) (aCons (eC (.int 0)) aNil))))) (sSeq (sSet 2 someE) (sSeq (sFor (iRange1 (aCons (eC (.int 3)) aNil)) (gtName 3) turn) rest)) := rfl
end K38

set_option maxHeartbeats 4000000
namespace K38
open DL PySem PySem.Spec PyProof.Rows L2
def Row (cells : List Int) (S : Sto) : Prop := ∃ n seed pend, S = row cells n seed pend
theorem taken_row {cells : List Int} {S : Sto} {m : Int} (h : Row cells S) (h0 : 0 < m) (h1 : m < 1073741824) : ∃ r S', f__law_taken [.obj 0, .int m] S = .ok (.int r) S' ∧ 0 ≤ r ∧ r < m ∧ Row cells S' := by
  obtain ⟨n, seed, pend, rfl⟩ := h
  obtain ⟨r, n', seed', pend', e, a, b⟩ := taken_ok cells n seed pend m h0 h1
  exact ⟨r, _, e, a, b, n', seed', pend', rfl⟩
theorem row_deref {cells : List Int} {S : Sto} (h : Row cells S) : ∃ ds, S[0]? = some (.lst ds) := by
  obtain ⟨n, seed, pend, rfl⟩ := h
  exact ⟨_, rfl⟩
theorem pick_row {cells : List Int} {S : Sto} {L : List D} (h : Row cells S) (hL : L ≠ []) (hl : L.length ≤ 1000) : ∃ d S', d ∈ L ∧ f__law_pick [.obj 0, .lst L] S = .ok d S' ∧ Row cells S' := by
  have hpos : 0 < (L.length : Int) := by
    cases L with
    | nil => exact absurd rfl hL
    | cons a b => simp only [List.length_cons]; omega
  obtain ⟨r, S', e, a, b, h'⟩ := taken_row h hpos (by omega)
  have hr : r.toNat < L.length := by omega
  refine ⟨L[r.toNat], S', List.getElem_mem hr, ?_, h'⟩
  have hat : L2.atI L r = some L[r.toNat] := by
    unfold L2.atI ixN
    rw [if_pos a, if_pos b]
    exact List.getElem?_eq_getElem hr
  simp [f__law_pick, b__law_pick, fnD, sRet, sBind, e2, eVar, eCall, aCons, aNil, eN, f1, lenF, Ress.bind, e, ixF, ixS, hat]
def five : List En := [("class", ["box"]), ("class", ["top"]), ("field", ["box", "x"]), ("method", ["red", "show"]), ("class", ["num"])]
theorem someE_ok (ρ : DEnv) (S : Sto) : someE ρ S = .ok (.lst (five.map en)) S := by kernel_rfl
theorem pull {P : En → Prop} : ∀ {ds : List D}, (∀ d ∈ ds, ∃ e, P e ∧ d = en e) → ∃ E : List En, ds = E.map en ∧ ∀ e ∈ E, P e
  | [], _ => ⟨[], rfl, by simp⟩
  | d :: ds, h => by
    obtain ⟨e, he, rfl⟩ := h d List.mem_cons_self
    obtain ⟨E, rfl, hE⟩ := pull (ds := ds) fun x hx => h x (List.mem_cons_of_mem _ hx)
    refine ⟨e :: E, rfl, fun x hx => ?_⟩
    rcases List.mem_cons.mp hx with rfl | hx
    · exact he
    · exact hE x hx
/-- the law's slots -/
abbrev env (x0 x3 x4 x5 x6 x7 x8 x9 x10 x11 x12 : Option D) : DEnv := [x0, some (.obj 0), some (.lst (five.map en)), x3, x4, x5, x6, x7, x8, x9, x10, x11, x12]
theorem entE_ok {cells : List Int} {S : Sto} {x0 x3 x4 x5 x6 x7 x8 x9 x10 x11 x12 : Option D} (h : Row cells S) : ∃ (E : List En) (S' : Sto), entE (env x0 x3 x4 x5 x6 x7 x8 x9 x10 x11 x12) S = .ok (.tup (E.map en)) S' ∧ Row cells S' ∧ E.length ≤ 6 ∧ ∀ e ∈ E, e ∈ five := by
  obtain ⟨r, S1, e, a, b, h1⟩ := taken_row (m := 7) h (by decide) (by decide)
  obtain ⟨ds, S2, e2', hl, hP, h2⟩ := lcD_draw (g := gtName 7) (fe := eCall f__law_pick (aCons (eVar 1) (aCons (eVar 2) aNil))) (ρ := wipeD (env x0 x3 x4 x5 x6 x7 x8 x9 x10 x11 x12) [7]) (P := fun d => ∃ e, e ∈ five ∧ d = en e) (I := Row cells) (xs := dInts 0 r.toNat) (acc := []) h1 (fun x hx S hS => by
    obtain ⟨d, S', hd, e', hS'⟩ := pick_row (L := five.map en) hS (by simp [five]) (by simp [five])
    obtain ⟨en', hen, rfl⟩ := List.mem_map.mp hd
    refine ⟨_, _, S', rfl, ?_, ⟨en', hen, rfl⟩, hS'⟩
    simp [eCall, aCons, aNil, eVar, wipeD, Ress.bind, e'])
  obtain ⟨E, rfl, hE⟩ := pull hP
  refine ⟨E, S2, ?_, h2, ?_, hE⟩
  · have c1 : r.toNat < LIM := lim_50 (by omega)
    have c2 : -(4611686018427387904 : Int) ≤ r := by omega
    have e2' : lcD (gtName 7) eYes (eCall f__law_pick (aCons (eVar 1) (aCons (eVar 2) aNil))) (dInts 0 r.toNat) [] [x0, some (D.obj 0), some (D.lst (five.map en)), x3, x4, x5, x6, none, x8, x9, x10, x11, x12] S1 = Res.ok (D.lst ([] ++ E.map en)) S2 := e2'
    simp [entE, eN, aCons, aNil, eLc, iRange1, eCall, eVar, eC, Ress.bind, e, c1, c2, wipeD, e2', f1, tupF]
  · rw [dInts_len'] at hl
    simp at hl
    omega
def goodsD : List (D × D) := [(.str "class", .lst [.str "new", .str "cast", .str "is"]), (.str "field", .lst [.str "get", .str "put"]), (.str "method", .lst [.str "call"])]
theorem goodS_ok (x0 x3 x4 x5 x6 x7 x8 x9 x10 x11 x12 : Option D) (S : Sto) : goodS (env x0 x3 x4 x5 x6 x7 x8 x9 x10 x11 x12) S = .nx (env x0 x3 x4 (some (.dct goodsD)) (some (.lst [])) x7 x8 x9 x10 x11 x12) S := by kernel_rfl
theorem St_of {xs : List D} (h : ∀ d ∈ xs, okD 0 d = true ∧ Odd d) (hl : xs.length ≤ 10) : St xs := ⟨okD_sh (okD_tup fun d hd => (h d hd).1) (by decide), fun d hd => (h d hd).2, hl⟩
theorem okw {w : Str} (h : okD 0 (.str w) = true) : okD 0 (.str w) = true ∧ Odd (.str w) := ⟨h, .inr (.inr (.inr ⟨w, rfl⟩))⟩
theorem oki (i : Int) : okD 0 (.int i) = true ∧ Odd (.int i) := ⟨okD_int i, .inl ⟨i, rfl⟩⟩
theorem sh_ents {E : List En} (hE : ∀ e ∈ E, e ∈ five) : shD (.tup (E.map en)) = true := by
  refine okD_sh (okD_tup (n := 1) fun d hd => ?_) (by decide)
  obtain ⟨e, he, rfl⟩ := List.mem_map.mp hd
  have : ∀ e ∈ five, okD 1 (en e) = true := by decide +kernel
  exact this e (hE e he)
/-- one step more -/
theorem app_row {x0 x3 x4 x5 x7 x8 x9 x10 x11 x12 : Option D} {acc : List (List D)} {xs : List D} {f : EF} {S S' : Sto} (hl : acc.length ≤ 21) (h : f (env x0 x3 x4 x5 (some (.lst (acc.map D.tup))) x7 x8 x9 x10 x11 x12) S = .ok (.tup xs) S') :
    sApp 6 f (env x0 x3 x4 x5 (some (.lst (acc.map D.tup))) x7 x8 x9 x10 x11 x12) S = .nx (env x0 x3 x4 x5 (some (.lst ((acc ++ [xs]).map D.tup))) x7 x8 x9 x10 x11 x12) S' := by
  have hn : acc.length < LIM := lim_50 (by omega)
  simp [sApp, sBind, h, hn]
theorem cA_ok {cells : List Int} {E : List En} {acc : List (List D)} {x0 x3 x7 x8 x9 x10 x11 x12 : Option D} {S : Sto} (h : Row cells S) (hE : ∀ e ∈ E, e ∈ five) (h0 : E ≠ []) (hEl : E.length ≤ 6) (hl : acc.length ≤ 21) :
    ∃ xs x8' S', cA (env x0 x3 (some (.tup (E.map en))) (some (.dct goodsD)) (some (.lst (acc.map D.tup))) x7 x8 x9 x10 x11 x12) S = .nx (env x0 x3 (some (.tup (E.map en))) (some (.dct goodsD)) (some (.lst ((acc ++ [xs]).map D.tup))) x7 x8' x9 x10 x11 x12) S' ∧ St xs ∧ Row cells S' := by
  have hpos : 0 < (E.length : Int) := by
    cases E with
    | nil => exact absurd rfl h0
    | cons a b => simp only [List.length_cons]; omega
  obtain ⟨p, S1, e, a, b, h1⟩ := taken_row (m := (E.length : Int)) h hpos (by omega)
  obtain ⟨e', he, hat⟩ := E_at (E := E) ⟨a, b⟩
  have hm := hE e' (List.mem_of_getElem? he)
  obtain ⟨ws, hw, hg, hw0, hwl⟩ : ∃ ws : List D, ixF (.dct goodsD) (.str e'.1) = some (.lst ws) ∧ (∀ w ∈ ws, okD 0 w = true ∧ Odd w) ∧ ws ≠ [] ∧ ws.length ≤ 1000 := by
    have o : ∀ ws : List Str, (∀ w ∈ ws, okD 0 (.str w) = true) → ∀ w ∈ ws.map D.str, okD 0 w = true ∧ Odd w := fun ws hh w hw => by
      obtain ⟨z, hz, rfl⟩ := List.mem_map.mp hw
      exact okw (hh z hz)
    simp only [five, List.mem_cons, List.not_mem_nil, or_false] at hm
    rcases hm with rfl | rfl | rfl | rfl | rfl
    · exact ⟨(["new", "cast", "is"] : List Str).map D.str, by kernel_rfl, o _ (by decide +kernel), by simp, by simp⟩
    · exact ⟨(["new", "cast", "is"] : List Str).map D.str, by kernel_rfl, o _ (by decide +kernel), by simp, by simp⟩
    · exact ⟨(["get", "put"] : List Str).map D.str, by kernel_rfl, o _ (by decide +kernel), by simp, by simp⟩
    · exact ⟨(["call"] : List Str).map D.str, by kernel_rfl, o _ (by decide +kernel), by simp, by simp⟩
    · exact ⟨(["new", "cast", "is"] : List Str).map D.str, by kernel_rfl, o _ (by decide +kernel), by simp, by simp⟩
  obtain ⟨w, S2, hwm, e3, h2⟩ := pick_row (L := ws) h1 hw0 hwl
  refine ⟨[w, .int p], some (.int p), S2, ?_, St_of (fun d hd => ?_) (by simp), h2⟩
  · have hs : sSet 8 (eCall f__law_taken (aCons (eVar 1) (aCons (eN (f1 lenF) (aCons (eVar 4) aNil)) aNil))) (env x0 x3 (some (.tup (E.map en))) (some (.dct goodsD)) (some (.lst (acc.map D.tup))) x7 x8 x9 x10 x11 x12) S = .nx (env x0 x3 (some (.tup (E.map en))) (some (.dct goodsD)) (some (.lst (acc.map D.tup))) x7 (some (.int p)) x9 x10 x11 x12) S1 := by
      simp [sSet, sBind, eCall, aCons, aNil, eVar, eN, f1, lenF, Ress.bind, e]
    unfold cA
    simp only [sSeq, hs]
    refine app_row hl ?_
    have hd : ∀ (S : Sto), deref S (.str e'.1) = .str e'.1 := fun _ => rfl
    simp [eTup, aCons, aNil, eCall, eVar, e2, ixF_tup, hat, en, eC, atI_0, hw, Ress.bind, e3, lim_2]
  · simp only [List.mem_cons, List.not_mem_nil, or_false] at hd
    rcases hd with rfl | rfl
    · exact hg _ hwm
    · exact oki p
end K38

set_option maxHeartbeats 4000000
namespace K38
open DL PySem PySem.Spec PyProof.Rows L2
/-- a turn of the drawing of steps -/
def Goes (cells : List Int) (E : List En) (f : SF) : Prop := ∀ (acc : List (List D)) (x0 x3 x7 x8 x9 x10 x11 x12 : Option D) (S : Sto), Row cells S → acc.length ≤ 21 →
  ∃ xs x8' x9' x10' S', f (env x0 x3 (some (.tup (E.map en))) (some (.dct goodsD)) (some (.lst (acc.map D.tup))) x7 x8 x9 x10 x11 x12) S = .nx (env x0 x3 (some (.tup (E.map en))) (some (.dct goodsD)) (some (.lst ((acc ++ [xs]).map D.tup))) x7 x8' x9' x10' x11 x12) S' ∧ St xs ∧ Row cells S'
theorem goes_A {cells : List Int} {E : List En} (hE : ∀ e ∈ E, e ∈ five) (h0 : E ≠ []) (hEl : E.length ≤ 6) : Goes cells E cA := fun acc x0 x3 x7 x8 x9 x10 x11 x12 S h hl => by
  obtain ⟨xs, x8', S', e, a, b⟩ := cA_ok (x0 := x0) (x3 := x3) (x7 := x7) (x8 := x8) (x9 := x9) (x10 := x10) (x11 := x11) (x12 := x12) h hE h0 hEl hl
  exact ⟨xs, x8', x9, x10, S', e, a, b⟩
def sevenL : List (List D) := [[.str "push", .int 3], [], [.str "go", .int 1, .int 2], [.int 5], [.non], [.str "give"], [.str "New", .int 0]]
theorem seven_ok : ∀ xs ∈ sevenL, St xs := by
  intro xs hx
  simp only [sevenL, List.mem_cons, List.not_mem_nil, or_false] at hx
  have w1 : okD 0 (.str "push") = true := by decide +kernel
  have w2 : okD 0 (.str "go") = true := by decide +kernel
  have w3 : okD 0 (.str "give") = true := by decide +kernel
  have w4 : okD 0 (.str "New") = true := by decide +kernel
  rcases hx with rfl | rfl | rfl | rfl | rfl | rfl | rfl <;> refine St_of (fun d hd => ?_) (by simp) <;> simp only [List.mem_cons, List.not_mem_nil, or_false] at hd
  · rcases hd with rfl | rfl
    · exact okw w1
    · exact oki _
  · rcases hd with rfl | rfl | rfl
    · exact okw w2
    · exact oki _
    · exact oki _
  · subst hd; exact oki _
  · subst hd; exact ⟨okD_non, .inr (.inl rfl)⟩
  · subst hd; exact okw w3
  · rcases hd with rfl | rfl
    · exact okw w4
    · exact oki _
theorem goes_B {cells : List Int} {E : List En} : Goes cells E cB := fun acc x0 x3 x7 x8 x9 x10 x11 x12 S h hl => by
  obtain ⟨d, S', hd, e, h'⟩ := pick_row (L := sevenL.map D.tup) h (by simp [sevenL]) (by simp [sevenL])
  obtain ⟨xs, hx, rfl⟩ := List.mem_map.mp hd
  refine ⟨xs, x8, x9, x10, S', ?_, seven_ok xs hx, h'⟩
  unfold cB
  refine app_row hl ?_
  have hlst : ∀ ρ S, (eLst (aCons (eTup (aCons (eC (.str ("push" : Str))) (aCons (eC (.int 3)) aNil))) (aCons (eTup aNil) (aCons (eTup (aCons (eC (.str ("go" : Str))) (aCons (eC (.int 1)) (aCons (eC (.int 2)) aNil)))) (aCons (eTup (aCons (eC (.int 5)) aNil)) (aCons (eTup (aCons (eC .non) aNil)) (aCons (eTup (aCons (eC (.str ("give" : Str))) aNil)) (aCons (eTup (aCons (eC (.str ("New" : Str))) (aCons (eC (.int 0)) aNil))) aNil)))))))) ρ S = .ok (.lst (sevenL.map D.tup)) S := fun ρ S => by kernel_rfl
  have h2 := hlst (env x0 x3 (some (.tup (E.map en))) (some (.dct goodsD)) (some (.lst (acc.map D.tup))) x7 x8 x9 x10 x11 x12) S
  generalize (eLst (aCons (eTup (aCons (eC (.str ("push" : Str))) (aCons (eC (.int 3)) aNil))) (aCons (eTup aNil) (aCons (eTup (aCons (eC (.str ("go" : Str))) (aCons (eC (.int 1)) (aCons (eC (.int 2)) aNil)))) (aCons (eTup (aCons (eC (.int 5)) aNil)) (aCons (eTup (aCons (eC .non) aNil)) (aCons (eTup (aCons (eC (.str ("give" : Str))) aNil)) (aCons (eTup (aCons (eC (.str ("New" : Str))) (aCons (eC (.int 0)) aNil))) aNil)))))))) = G at h2 ⊢
  simp [eCall, aCons, aNil, eVar, Ress.bind, h2, e]
def words4 : List D := [.str "new", .str "is", .str "get", .str "call"]
theorem words4_ok : ∀ w ∈ words4, okD 0 w = true ∧ Odd w := by
  intro w hw
  simp only [words4, List.mem_cons, List.not_mem_nil, or_false] at hw
  rcases hw with rfl | rfl | rfl | rfl
  · exact okw (by decide +kernel)
  · exact okw (by decide +kernel)
  · exact okw (by decide +kernel)
  · exact okw (by decide +kernel)
theorem goes_C {cells : List Int} {E : List En} : Goes cells E cC := fun acc x0 x3 x7 x8 x9 x10 x11 x12 S h hl => by
  obtain ⟨w, S1, hw, e1', h1⟩ := pick_row (L := words4) h (by simp [words4]) (by simp [words4])
  let odds : List D := [.int 0, .int E.length, .int (-1), .bl true, .str "box", .non]
  obtain ⟨o, S2, ho, e2', h2⟩ := pick_row (L := odds) h1 (by simp [odds]) (by simp [odds])
  have hok : okD 0 o = true ∧ Odd o := by
    simp only [odds, List.mem_cons, List.not_mem_nil, or_false] at ho
    rcases ho with rfl | rfl | rfl | rfl | rfl | rfl
    · exact oki _
    · exact oki _
    · exact oki _
    · exact ⟨okD_bl _, .inr (.inr (.inl ⟨_, rfl⟩))⟩
    · exact okw (by decide +kernel)
    · exact ⟨okD_non, .inr (.inl rfl)⟩
  have hwk := words4_ok w hw
  let L3 : List (List D) := [[w, o], [w], [w, .int 0, .int 0]]
  have hL3 : ∀ xs ∈ L3, St xs := by
    intro xs hx
    simp only [L3, List.mem_cons, List.not_mem_nil, or_false] at hx
    rcases hx with rfl | rfl | rfl <;> refine St_of (fun d hd => ?_) (by simp) <;> simp only [List.mem_cons, List.not_mem_nil, or_false] at hd
    · rcases hd with rfl | rfl
      · exact hwk
      · exact hok
    · subst hd; exact hwk
    · rcases hd with rfl | rfl | rfl
      · exact hwk
      · exact oki _
      · exact oki _
  obtain ⟨d, S3, hd, e3', h3⟩ := pick_row (L := L3.map D.tup) h2 (by simp [L3]) (by simp [L3])
  obtain ⟨xs, hx, rfl⟩ := List.mem_map.mp hd
  refine ⟨xs, x8, some w, some (.lst odds), S3, ?_, hL3 xs hx, h3⟩
  have hl6 : (6 : Nat) < LIM := by decide
  have hl4 : (4 : Nat) < LIM := by decide
  have hpar : (sPar [9, 10] (aCons (eCall f__law_pick (aCons (eVar 1) (aCons (eLst (aCons (eC (.str ("new" : Str))) (aCons (eC (.str ("is" : Str))) (aCons (eC (.str ("get" : Str))) (aCons (eC (.str ("call" : Str))) aNil))))) aNil))) (aCons (eLst (aCons (eC (.int 0)) (aCons (eN (f1 lenF) (aCons (eVar 4) aNil)) (aCons (e1 negF (eC (.int 1))) (aCons (eC (.bl true)) (aCons (eC (.str ("box" : Str))) (aCons (eC .non) aNil))))))) aNil))) (env x0 x3 (some (.tup (E.map en))) (some (.dct goodsD)) (some (.lst (acc.map D.tup))) x7 x8 x9 x10 x11 x12) S = .nx (env x0 x3 (some (.tup (E.map en))) (some (.dct goodsD)) (some (.lst (acc.map D.tup))) x7 x8 (some w) (some (.lst odds)) x11 x12) S1 := by
    simp only [words4] at e1'
    simp [sPar, eCall, aCons, aNil, eVar, eLst, eC, Ress.bind, hl4, e1', eN, f1, lenF, e1, negF, hl6, putD', odds]
  have happ : (sApp 6 (eCall f__law_pick (aCons (eVar 1) (aCons (eLst (aCons (eTup (aCons (eVar 9) (aCons (eCall f__law_pick (aCons (eVar 1) (aCons (eVar 10) aNil))) aNil))) (aCons (eTup (aCons (eVar 9) aNil)) (aCons (eTup (aCons (eVar 9) (aCons (eC (.int 0)) (aCons (eC (.int 0)) aNil)))) aNil)))) aNil)))) (env x0 x3 (some (.tup (E.map en))) (some (.dct goodsD)) (some (.lst (acc.map D.tup))) x7 x8 (some w) (some (.lst odds)) x11 x12) S1 = .nx (env x0 x3 (some (.tup (E.map en))) (some (.dct goodsD)) (some (.lst ((acc ++ [xs]).map D.tup))) x7 x8 (some w) (some (.lst odds)) x11 x12) S3 := by
    refine app_row hl ?_
    simp only [L3, List.map_cons, List.map_nil] at e3'
    simp [eCall, aCons, aNil, eVar, eLst, eTup, eC, Ress.bind, lim_1, lim_2, lim_3, e2', e3']
  show sSeq _ _ _ S = _
  unfold sSeq
  show (match sPar [9, 10] _ _ S with
    | .nx ρ1 S1 => _
    | r => r) = _
  rw [hpar]
  exact happ
theorem goes_body {cells : List Int} {E : List En} (hE : ∀ e ∈ E, e ∈ five) (hEl : E.length ≤ 6) : Goes cells E cbody := fun acc x0 x3 x7 x8 x9 x10 x11 x12 S h hl => by
  have hsh := sh_ents hE
  have hne : neF (.tup (E.map en)) (.tup []) = some (.bl (!E.isEmpty)) := by
    simp only [neF, hsh, sh_nil, eqD_nil]
    simp
  obtain ⟨r, S1, e1', a1, b1, h1⟩ := taken_row (m := 6) h (by decide) (by decide)
  obtain ⟨r2, S2, e2', a2, b2, h2⟩ := taken_row (m := 3) h (by decide) (by decide)
  obtain ⟨r3, S3, e3', a3, b3, h3⟩ := taken_row (m := 3) h1 (by decide) (by decide)
  by_cases h0 : E = []
  · subst h0
    by_cases hr : 0 < r2
    · obtain ⟨xs, x8', x9', x10', S', e, a, b⟩ := goes_B acc x0 x3 x7 x8 x9 x10 x11 x12 S2 h2 hl
      refine ⟨xs, x8', x9', x10', S', ?_, a, b⟩
      rw [← e]
      simp [cbody, sIf, sBind, eAnd, e2, eVar, eTup, aNil, lim_pos, neF, sh_nil, eqD_nil, iLt, eCall, aCons, eC, Ress.bind, e2', hr]
    · obtain ⟨xs, x8', x9', x10', S', e, a, b⟩ := goes_C acc x0 x3 x7 x8 x9 x10 x11 x12 S2 h2 hl
      refine ⟨xs, x8', x9', x10', S', ?_, a, b⟩
      rw [← e]
      simp [cbody, sIf, sBind, eAnd, e2, eVar, eTup, aNil, lim_pos, neF, sh_nil, eqD_nil, iLt, eCall, aCons, eC, Ress.bind, e2', hr]
  · have hem : E.isEmpty = false := by cases E <;> first | exact absurd rfl h0 | rfl
    rw [hem] at hne
    by_cases hr1 : 0 < r
    · obtain ⟨xs, x8', x9', x10', S', e, a, b⟩ := goes_A (cells := cells) hE h0 hEl acc x0 x3 x7 x8 x9 x10 x11 x12 S1 h1 hl
      refine ⟨xs, x8', x9', x10', S', ?_, a, b⟩
      rw [← e]
      simp [cbody, sIf, sBind, eAnd, e2, eVar, eTup, aNil, lim_pos, hne, iLt, eCall, aCons, eC, Ress.bind, e1', hr1]
    · by_cases hr : 0 < r3
      · obtain ⟨xs, x8', x9', x10', S', e, a, b⟩ := goes_B (E := E) acc x0 x3 x7 x8 x9 x10 x11 x12 S3 h3 hl
        refine ⟨xs, x8', x9', x10', S', ?_, a, b⟩
        rw [← e]
        simp [cbody, sIf, sBind, eAnd, e2, eVar, eTup, aNil, lim_pos, hne, iLt, eCall, aCons, eC, Ress.bind, e1', hr1, e3', hr]
      · obtain ⟨xs, x8', x9', x10', S', e, a, b⟩ := goes_C (E := E) acc x0 x3 x7 x8 x9 x10 x11 x12 S3 h3 hl
        refine ⟨xs, x8', x9', x10', S', ?_, a, b⟩
        rw [← e]
        simp [cbody, sIf, sBind, eAnd, e2, eVar, eTup, aNil, lim_pos, hne, iLt, eCall, aCons, eC, Ress.bind, e1', hr1, e3', hr]
end K38

set_option maxHeartbeats 4000000
namespace K38
open DL PySem PySem.Spec PyProof.Rows L2
theorem code_ok {cells : List Int} {E : List En} {x0 x3 x7 x8 x9 x10 x11 x12 : Option D} {S : Sto} (h : Row cells S) (hE : ∀ e ∈ E, e ∈ five) (hEl : E.length ≤ 6) :
    ∃ acc x7' x8' x9' x10' S', sFor crange (gtName 7) cbody (env x0 x3 (some (.tup (E.map en))) (some (.dct goodsD)) (some (.lst [])) x7 x8 x9 x10 x11 x12) S = .nx (env x0 x3 (some (.tup (E.map en))) (some (.dct goodsD)) (some (.lst ((acc : List (List D)).map D.tup))) x7' x8' x9' x10' x11 x12) S' ∧ acc.length ≤ 20 ∧ (∀ xs ∈ acc, St xs) ∧ Row cells S' := by
  obtain ⟨t, S1, e1', a1, b1, h1⟩ := taken_row (m := 2) h (by decide) (by decide)
  obtain ⟨m, hm, hm6, hm21⟩ : ∃ m : Int, L2.atI [D.int 6, D.int 21] t = some (.int m) ∧ 0 < m ∧ m ≤ 21 := by
    have : t = 0 ∨ t = 1 := by omega
    rcases this with rfl | rfl
    · exact ⟨6, by rw [atI_0], by omega, by omega⟩
    · exact ⟨21, by rw [atI_1], by omega, by omega⟩
  obtain ⟨r, S2, e2', a2, b2, h2⟩ := taken_row (m := m) h1 hm6 (by omega)
  have hr : crange (env x0 x3 (some (.tup (E.map en))) (some (.dct goodsD)) (some (.lst [])) x7 x8 x9 x10 x11 x12) S = .ok (dInts 0 r.toNat) S2 := by
    have c1 : r.toNat < LIM := lim_50 (by omega)
    have c2 : -(4611686018427387904 : Int) ≤ r := by omega
    simp [crange, iRange1, aCons, aNil, eCall, eVar, e2, eLst, eC, lim_2, Ress.bind, e1', ixF, ixS, hm, e2', c1, c2]
  obtain ⟨ρ', S', e3, acc, x7', x8', x9', x10', rfl, hl, hs, h3⟩ := forD_all (g := gtName 7) (body := cbody) (xs := dInts 0 r.toNat) (ρ := env x0 x3 (some (.tup (E.map en))) (some (.dct goodsD)) (some (.lst [])) x7 x8 x9 x10 x11 x12) (S := S2)
    (fun i ρ S => ∃ (acc : List (List D)) (x7' x8' x9' x10' : Option D), ρ = env x0 x3 (some (.tup (E.map en))) (some (.dct goodsD)) (some (.lst (acc.map D.tup))) x7' x8' x9' x10' x11 x12 ∧ acc.length = i ∧ (∀ xs ∈ acc, St xs) ∧ Row cells S)
    ⟨[], x7, x8, x9, x10, rfl, rfl, by simp, h2⟩ (fun i x ρ S hx ⟨acc, y7, y8, y9, y10, hρ, hl, hs, hS⟩ => by
      subst hρ
      obtain ⟨hi, rfl⟩ := dInts_get hx
      obtain ⟨xs, z8, z9, z10, S', e, a, b⟩ := goes_body (cells := cells) hE hEl acc x0 x3 (some (.int (0 + (i : Int)))) y8 y9 y10 x11 x12 S hS (by omega)
      refine ⟨_, _, S', rfl, .inl e, acc ++ [xs], some (.int (0 + (i : Int))), z8, z9, z10, rfl, by simp [hl], fun ys hy => ?_, b⟩
      rcases List.mem_append.mp hy with hy | hy
      · exact hs ys hy
      · simp at hy; subst hy; exact a)
  refine ⟨acc, x7', x8', x9', x10', S', ?_, ?_, hs, h3⟩
  · unfold sFor
    rw [hr]
    exact e3
  · rw [hl, dInts_len']
    omega
theorem five_form (S : Sto) : ∀ e ∈ five, f_has_form [en e] S = .ok (.bl true) S := by
  intro e he
  simp only [five, List.mem_cons, List.not_mem_nil, or_false] at he
  rcases he with rfl | rfl | rfl | rfl | rfl <;> kernel_rfl
theorem five_len : ∀ e ∈ five, e.2.length ≤ 10 := by decide +kernel
theorem conv_al {E : List En} {xs ys : List D} (hE : ∀ e ∈ E, e.2.length ≤ 10) (hs : St xs) (h : conv E xs = some ys) : (∀ d ∈ ys, Odd d) ∧ ys.length < 1000 := by
  unfold conv at h
  split at h
  · rename_i s rest
    split at h
    · rename_i k hk
      split at h
      · rename_i p
        split at h
        · split at h
          · rename_i e he
            split at h
            · cases h
              refine ⟨fun d hd => ?_, by have := hE e (List.mem_of_getElem? he); simp; omega⟩
              rcases List.mem_cons.mp hd with rfl | hd
              · exact .inr (.inr (.inr ⟨s, rfl⟩))
              · obtain ⟨z, _, rfl⟩ := List.mem_map.mp hd
                exact .inr (.inr (.inr ⟨z, rfl⟩))
            · cases h
          · cases h
        · cases h
      · cases h
    · cases h
      exact ⟨hs.odd, by have := hs.len; omega⟩
  · cases h
    exact ⟨hs.odd, by have := hs.len; omega⟩
theorem convs_al {E : List En} (hE : ∀ e ∈ E, e.2.length ≤ 10) : ∀ {xss : List (List D)} {i : Nat} {yss : List (List D)}, (∀ xs ∈ xss, St xs) → convs E i xss = .inr yss → ∀ ys ∈ yss, (∀ d ∈ ys, Odd d) ∧ ys.length < 1000
  | [], i, yss, _, h => by cases h; simp
  | xs :: r, i, yss, hs, h => by
    unfold convs at h
    cases hc : conv E xs with
    | none => rw [hc] at h; cases h
    | some ys =>
      rw [hc] at h
      cases hr : convs E (i + 1) r with
      | inl j => rw [hr] at h; cases h
      | inr zss =>
        rw [hr] at h; cases h
        intro zs hz
        rcases List.mem_cons.mp hz with rfl | hz
        · exact conv_al hE (hs xs List.mem_cons_self) hc
        · exact convs_al hE (fun x hx => hs x (List.mem_cons_of_mem _ hx)) hr zs hz
theorem res_al {E : List En} {xss : List (List D)} (hE : ∀ e ∈ E, e.2.length ≤ 10) (hs : ∀ xs ∈ xss, St xs) (hl : xss.length ≤ 20) : al 9 (res E xss) := by
  unfold res
  cases hc : convs E 0 xss with
  | inl j =>
    refine .inr ⟨_, rfl, by simp, fun x hx => ?_⟩
    simp only [List.mem_cons, List.not_mem_nil, or_false] at hx
    rcases hx with rfl | rfl
    · exact .inl (.inr (.inr (.inr ⟨_, rfl⟩)))
    · exact .inl (.inl ⟨_, rfl⟩)
  | inr yss =>
    have hlen := convs_len hc
    refine .inr ⟨_, rfl, by simp; omega, fun x hx => ?_⟩
    obtain ⟨ys, hy, rfl⟩ := List.mem_map.mp hx
    obtain ⟨a, b⟩ := convs_al hE hs hc ys hy
    exact .inr ⟨_, rfl, b, fun z hz => .inl (a z hz)⟩
theorem chk_ok {E : List En} {acc : List (List D)} {x0 x3 x5 x7 x8 x9 x10 x11 x12 : Option D} (S : Sto) (hE : ∀ e ∈ E, e ∈ five) (hEl : E.length ≤ 6) (hs : ∀ xs ∈ acc, St xs) (hl : acc.length ≤ 20) :
    chk (env x0 x3 (some (.tup (E.map en))) x5 (some (.lst (acc.map D.tup))) x7 x8 x9 x10 x11 x12) S = .nx (env x0 x3 (some (.tup (E.map en))) x5 (some (.lst (acc.map D.tup))) x7 x8 x9 x10 x11 x12) S := by
  have hE10 : ∀ e ∈ E, e.2.length ≤ 10 := fun e he => five_len e (hE e he)
  have h1 := told_ok (E := E) (xss := acc) S hE10 (fun e he => five_form S e (hE e he)) (by omega) hs hl
  have h2 := due_ok (E := E) (xss := acc) S hE10 hs (by omega)
  have h3 := alike_ok 9 (res E acc) S (res_al hE10 hs hl)
  simp [chk, sIf, sBind, eNot, notF, eCall, aCons, aNil, eVar, eN, f1, tupF, Ress.bind, h1, h2, h3, sNext]
theorem floop_bad {e c z4 z5 : Option D} {v : D} {r : List D} (S : Sto) (hv : f_has_form [v] S = .ok (.bl false) S) : ∀ (ds : List D) (i : Nat) (z2 z3 : Option D), (∀ d ∈ ds, f_has_form [d] S = .ok (.bl true) S) → ∃ ρ', forD p1g p1body (enD i (ds ++ v :: r)) [e, c, z2, z3, z4, z5] S = .exn (.ins "BadPool" [("index", .int ((i + ds.length : Nat) : Int))]) ρ' S
  | [], i, z2, z3, _ => by
    have hb : p1body [e, c, some (.int i), some v, z4, z5] S = .exn (.ins "BadPool" [("index", .int (i : Int))]) [e, c, some (.int i), some v, z4, z5] S := by
      simp [p1body, sIf, sBind, eNot, notF, eCall, aCons, aNil, eVar, Ress.bind, hv, sRaise]
    refine ⟨[e, c, some (.int i), some v, z4, z5], ?_⟩
    simp only [List.nil_append, enD, forD]
    show (match p1body [e, c, some (.int i), some v, z4, z5] S with
      | .nx ρ2 S2 => _
      | .ct ρ2 S2 => _
      | .bk ρ2 S2 => _
      | r => r) = _
    rw [hb]
    rfl
  | d :: ds, i, z2, z3, h => by
    obtain ⟨ρ', ih⟩ := floop_bad S hv ds (i + 1) (some (.int i)) (some d) fun x hx => h x (List.mem_cons_of_mem _ hx)
    refine ⟨ρ', ?_⟩
    have hb : p1body [e, c, some (.int i), some d, z4, z5] S = .nx [e, c, some (.int i), some d, z4, z5] S := by
      simp [p1body, sIf, sBind, eNot, notF, eCall, aCons, aNil, eVar, Ress.bind, h d List.mem_cons_self, sNext]
    simp only [List.cons_append, enD, forD]
    show (match p1body [e, c, some (.int i), some d, z4, z5] S with
      | .nx ρ2 S2 => _
      | .ct ρ2 S2 => _
      | .bk ρ2 S2 => _
      | r => r) = _
    rw [hb]
    have e1 : (i + 1 + ds.length : Nat) = i + (d :: ds).length := by simp; omega
    rw [e1] at ih
    exact ih
theorem told_wrong {E : List En} {v : D} (S : Sto) (hE : ∀ e ∈ E, e ∈ five) (hEl : E.length ≤ 6) (hv : f_has_form [v] S = .ok (.bl false) S) : f__law_told [.tup (E.map en ++ [v, .non]), .tup []] S = .ok (.tup [.str "pool", .int E.length]) S := by
  obtain ⟨ρ', h1⟩ := floop_bad (e := some (.tup (E.map en ++ [v, .non]))) (c := some (.tup [])) (z4 := none) (z5 := none) (v := v) (r := [.non]) S hv (E.map en) 0 none none (fun d hd => by
    obtain ⟨e, he, rfl⟩ := List.mem_map.mp hd
    exact five_form S e (hE e he))
  have hle : (E.length : Int) + 2 ≤ 99 := by omega
  have hn : E.length + 2 < LIM := lim_50 (by omega)
  simp only [Nat.zero_add, List.length_map] at h1
  have hu : f_unpooled [.tup (E.map en ++ [v, .non]), .tup []] S = .exn (.ins "BadPool" [("index", .int (E.length : Int))]) S := by
    simp [f_unpooled, unpooled_eq, fnD, sSeq, sIf, sBind, eNot, notF, eCall, aCons, aNil, eVar, eC, Ress.bind, islist_ok, hle, sNext, sFor, iEn, itemsD, hn, h1]
  simp [f__law_told, b__law_told, fnD, sTry, sRet, sBind, eCall, aCons, aNil, eVar, Ress.bind, hu, handD, to_BadPool, to_BadPooled, goneS, eTup, eC, eXf, lim_2, List.lookup]
def wrong1 : List D := [.non, .tup [], .tup [.str "class"], .tup [.str "class", .str "box", .str "x"], .tup [.str "field", .str "box"], .tup [.str "thing", .str "box"], .tup [.str "class", .str "Box"], .int 3]
def wrong2 : List D := [.tup [.str "class", .str ""], .tup [.str "class", .str "toolong"], .lst [.str "class", .str "box"], .tup [.str "class", .non], .tup [.non, .str "box"]]
theorem wrong_form (S : Sto) : ∀ v ∈ wrong1 ++ wrong2, f_has_form [v] S = .ok (.bl false) S := by
  intro v hv
  simp only [wrong1, wrong2, List.cons_append, List.nil_append, List.mem_cons, List.not_mem_nil, or_false] at hv
  rcases hv with rfl | rfl | rfl | rfl | rfl | rfl | rfl | rfl | rfl | rfl | rfl | rfl | rfl <;> kernel_rfl
theorem w1_ok (x0 x3 x4 x5 x6 x7 x8 x9 x10 x11 x12 : Option D) (S : Sto) : w1 (env x0 x3 x4 x5 x6 x7 x8 x9 x10 x11 x12) S = .nx (env x0 x3 x4 x5 x6 x7 x8 x9 x10 (some (.lst wrong1)) x12) S := by kernel_rfl
theorem w2_ok (x0 x3 x4 x5 x6 x7 x8 x9 x10 x12 : Option D) (S : Sto) : w2 (env x0 x3 x4 x5 x6 x7 x8 x9 x10 (some (.lst wrong1)) x12) S = .nx (env x0 x3 x4 x5 x6 x7 x8 x9 x10 (some (.lst (wrong1 ++ wrong2))) x12) S := by kernel_rfl
theorem rest_ok (x0 x3 x4 x5 x6 x7 x8 x9 x10 x11 x12 : Option D) (S : Sto) : rest (env x0 x3 x4 x5 x6 x7 x8 x9 x10 x11 x12) S = .rt (.bl true) S := by kernel_rfl
theorem wloop_ok {E : List En} {x0 x3 x5 x6 x7 x8 x9 x10 x12 : Option D} (S : Sto) (hE : ∀ e ∈ E, e ∈ five) (hEl : E.length ≤ 6) :
    ∃ x12', sFor (iSeq (eVar 11)) (gtName 12) wb (env x0 x3 (some (.tup (E.map en))) x5 x6 x7 x8 x9 x10 (some (.lst (wrong1 ++ wrong2))) x12) S = .nx (env x0 x3 (some (.tup (E.map en))) x5 x6 x7 x8 x9 x10 (some (.lst (wrong1 ++ wrong2))) x12') S := by
  obtain ⟨ρ', S', e, ⟨x12', rfl⟩, hS⟩ := forD_all (g := gtName 12) (body := wb) (xs := wrong1 ++ wrong2) (ρ := env x0 x3 (some (.tup (E.map en))) x5 x6 x7 x8 x9 x10 (some (.lst (wrong1 ++ wrong2))) x12) (S := S)
    (fun i ρ S' => (∃ x12', ρ = env x0 x3 (some (.tup (E.map en))) x5 x6 x7 x8 x9 x10 (some (.lst (wrong1 ++ wrong2))) x12') ∧ S' = S) ⟨⟨x12, rfl⟩, rfl⟩ (fun i v ρ S' hx ⟨⟨y12, hρ⟩, hS⟩ => by
      subst hρ hS
      have hv := wrong_form S' v (List.mem_of_getElem? hx)
      have ht := told_wrong (E := E) (v := v) S' hE hEl hv
      have hn : E.length + 2 < LIM := lim_50 (by omega)
      have hsh : shD (.tup [.str "pool", .int (E.length : Int)]) = true := okD_sh (okD_tup fun d hd => by
        simp only [List.mem_cons, List.not_mem_nil, or_false] at hd
        rcases hd with rfl | rfl
        · exact (by decide +kernel : okD 0 (.str "pool") = true)
        · exact okD_int _) (by decide)
      have heq : eqD (.tup [.str "pool", .int (E.length : Int)]) (.tup [.str "pool", .int (E.length : Int)]) = true := by
        simp [eqD, toPy, toPys, PyData.eqv, PyData.eqvAll]
      refine ⟨_, env x0 x3 (some (.tup (E.map en))) x5 x6 x7 x8 x9 x10 (some (.lst (wrong1 ++ wrong2))) (some v), S', rfl, .inl ?_, ⟨some v, rfl⟩, rfl⟩
      simp [wb, sIf, sBind, e2, eCall, aCons, aNil, eVar, eTup, eC, lim_2, lim_pos, addF, hn, Ress.bind, ht, eN, f1, lenF, neF, hsh, heq, sNext])
  subst hS
  refine ⟨x12', ?_⟩
  unfold sFor
  simp only [iSeq, eVar]
  exact e
theorem turn_ok {cells : List Int} {x0 x3 x4 x5 x6 x7 x8 x9 x10 x11 x12 : Option D} {S : Sto} (h : Row cells S) :
    ∃ y4 y5 y6 y7 y8 y9 y10 y11 y12 S', turn (env x0 x3 x4 x5 x6 x7 x8 x9 x10 x11 x12) S = .nx (env x0 x3 y4 y5 y6 y7 y8 y9 y10 y11 y12) S' ∧ Row cells S' := by
  obtain ⟨E, S1, e1', h1, hEl, hE⟩ := entE_ok (x0 := x0) (x3 := x3) (x4 := x4) (x5 := x5) (x6 := x6) (x7 := x7) (x8 := x8) (x9 := x9) (x10 := x10) (x11 := x11) (x12 := x12) h
  obtain ⟨acc, x7', x8', x9', x10', S2, e2', hl, hs, h2⟩ := code_ok (x0 := x0) (x3 := x3) (x7 := x7) (x8 := x8) (x9 := x9) (x10 := x10) (x11 := x11) (x12 := x12) h1 hE hEl
  have e3 := chk_ok (x0 := x0) (x3 := x3) (x5 := some (.dct goodsD)) (x7 := x7') (x8 := x8') (x9 := x9') (x10 := x10') (x11 := x11) (x12 := x12) S2 hE hEl hs hl
  obtain ⟨x12', e4⟩ := wloop_ok (E := E) (x0 := x0) (x3 := x3) (x5 := some (.dct goodsD)) (x6 := some (.lst (acc.map D.tup))) (x7 := x7') (x8 := x8') (x9 := x9') (x10 := x10') (x12 := x12) S2 hE hEl
  refine ⟨some (.tup (E.map en)), some (.dct goodsD), some (.lst (acc.map D.tup)), x7', x8', x9', x10', some (.lst (wrong1 ++ wrong2)), x12', S2, ?_, h2⟩
  have s1 : sSet 4 entE (env x0 x3 x4 x5 x6 x7 x8 x9 x10 x11 x12) S = .nx (env x0 x3 (some (.tup (E.map en))) x5 x6 x7 x8 x9 x10 x11 x12) S1 := by
    simp only [sSet, sBind, e1']
    rfl
  unfold turn
  simp only [sSeq, s1, goodS_ok, e2', e3, w1_ok, w2_ok, e4]
theorem law_ok (cells : List Int) : ∃ S', f_law [.lst (cells.map D.int)] [] = .ok (.bl true) S' := by
  obtain ⟨ρ', S', e, x3, y4, y5, y6, y7, y8, y9, y10, y11, y12, rfl, _⟩ := forD_all (g := gtName 3) (body := turn) (xs := dInts 0 3) (ρ := env (some (.lst (cells.map D.int))) none none none none none none none none none none) (S := row cells 0 2938 0)
    (fun i ρ S => ∃ x3 y4 y5 y6 y7 y8 y9 y10 y11 y12, ρ = env (some (.lst (cells.map D.int))) x3 y4 y5 y6 y7 y8 y9 y10 y11 y12 ∧ Row cells S)
    ⟨none, none, none, none, none, none, none, none, none, none, rfl, 0, 2938, 0, rfl⟩ (fun i x ρ S hx ⟨x3, y4, y5, y6, y7, y8, y9, y10, y11, y12, hρ, hS⟩ => by
      subst hρ
      obtain ⟨hi, rfl⟩ := dInts_get hx
      obtain ⟨z4, z5, z6, z7, z8, z9, z10, z11, z12, S', e, b⟩ := turn_ok (x0 := some (.lst (cells.map D.int))) (x3 := some (.int (0 + (i : Int)))) (x4 := y4) (x5 := y5) (x6 := y6) (x7 := y7) (x8 := y8) (x9 := y9) (x10 := y10) (x11 := y11) (x12 := y12) hS
      exact ⟨_, _, S', rfl, .inl e, some (.int (0 + (i : Int))), z4, z5, z6, z7, z8, z9, z10, z11, z12, rfl, b⟩)
  have hr := rest_ok (some (.lst (cells.map D.int))) x3 y4 y5 y6 y7 y8 y9 y10 y11 y12 S'
  refine ⟨S', ?_⟩
  have h3 : (3 : Nat) < LIM := lim_3
  have s0 : sNewO 1 (aCons (eVar 0) (aCons (eC (.int 0)) (aCons (eC (.int 2938)) (aCons (eC (.int 0)) aNil)))) ([some (.lst (cells.map D.int))] ++ List.replicate 12 none) [] = .nx ([some (.lst (cells.map D.int)), some (.obj 0)] ++ List.replicate 11 none) (row cells 0 2938 0) := by
    rfl
  have s1 : sSet 2 someE ([some (.lst (cells.map D.int)), some (.obj 0)] ++ List.replicate 11 none) (row cells 0 2938 0) = .nx (env (some (.lst (cells.map D.int))) none none none none none none none none none none) (row cells 0 2938 0) := by
    simp only [sSet, sBind, someE_ok]
    rfl
  have s2 : sFor (iRange1 (aCons (eC (.int 3)) aNil)) (gtName 3) turn (env (some (.lst (cells.map D.int))) none none none none none none none none none none) (row cells 0 2938 0) = .nx (env (some (.lst (cells.map D.int))) x3 y4 y5 y6 y7 y8 y9 y10 y11 y12) S' := by
    unfold sFor
    have : iRange1 (aCons (eC (.int 3)) aNil) (env (some (.lst (cells.map D.int))) none none none none none none none none none none) (row cells 0 2938 0) = .ok (dInts 0 3) (row cells 0 2938 0) := by
      simp [iRange1, aCons, aNil, eC, lim_3]
    rw [this]
    exact e
  have hb : b_law ([some (.lst (cells.map D.int))] ++ List.replicate 12 none) [] = .rt (.bl true) S' := by
    rw [law_eq]
    simp only [sSeq, s0, s1, s2, hr]
  show (match b_law ([some (.lst (cells.map D.int))] ++ List.replicate 12 none) [] with
    | .rt d S1 => Res.ok d S1
    | .nx _ S1 => .ok .non S1
    | .exn x _ S1 => .exn x S1
    | _ => .stuck) = _
  rw [hb]
end K38

set_option maxHeartbeats 0
namespace K38
open DL PySem PySem.Spec PyProof.Rows L2
abbrev R : PySem.W.OpenRow := PySem.W.OpenLaw.row PySem.Challenge.rw_classhouse_k38_whole_codes_with_names_ag
abbrev hk : PySem.W.Hook := hookX 4 fa fn ts bs
def ob (s : PySem.W.SharedT) : AlX := obsXG 4 fa fn ts bs (HandSHeadRun.getT s)
theorem ob_eq (s : PySem.W.SharedT) : ob s = hk.obs s.abs := obsXG_eq (HandSHeadRun.getT_eq s)
abbrev loose : List Str := ["ClassError", "BadPool", "BadPooled", "LETTERS", "MOST_STEPS", "CLASS", "FIELD", "METHOD", "MOST_ENTRIES", "ENTRIES", "SIZES", "is_in", "is_word", "is_list", "has_form", "named", "unpooled", "_law_taken", "_law_pick", "_law_alike", "_law_told", "_law_due"]
theorem run : ∀ w : World, HandSHeadRun.RunEq R (PySem.W.view R.prog [26]) hk ob 6000 loose w :=
  PySem.W.byRow2 "special-get-raises" (P := fun w => HandSHeadRun.RunEq R (PySem.W.view R.prog [26]) hk ob 6000 loose w) (by
    intro w os
    kernel_rfl) (by
    intro w os
    kernel_rfl)
end K38
open PySem PySem.W PySem.Calls PyProof.Rows
theorem PySem.Challenge.cw_classhouse_k38_whole_codes_with_names_ag_holds : PySem.Challenge.rw_classhouse_k38_whole_codes_with_names_ag.Holds := by
  w_on; o_law
  refine HandSHeadRun.head_any (r := K38.R) (q := view K38.R.prog [26]) (H := K38.hk) (ob := K38.ob) (M := 6000) (loose := K38.loose) (d := HandSHeadRun.topDef K38.R.prog 26) (kwd := []) K38.ob_eq
    (by kernel_rfl) (fun s => by kernel_rfl) K38.run (by kernel_rfl) (by kernel_rfl) (by kernel_rfl) (by rfl) (by first | assumption | decide +kernel) (by decide +kernel) ⟨rfl, rfl, rfl, rfl, rfl, by decide +kernel⟩ ?hw ?hc
  case hw => w_witness2
  case hc =>
    refine LamX.walk_ofTsE (l := PySem.Challenge.rw_classhouse_k38_whole_codes_with_names_ag) (n := 63) (k := 11) (x := "_law_script") (CX := L2.CX (PySem.Challenge.rw_classhouse_k38_whole_codes_with_names_ag).prog) rfl (by decide) (by kernel_rfl) ⟨rfl, by decide, by decide⟩ ?F fun w => DL.noCX w
    intro w mg fa h Y G hmg0
    obtain ⟨K, KX, c⟩ := Y
    have hmg : mg ("law" : PySem.Str) = some (.ref fa) := by
      have e : (HandSHeadRun.topDef K38.R.prog 26).name = ("law" : PySem.Str) := by kernel_rfl
      rw [← e]
      exact hmg0
    exact ⟨K, KX, DL.lawAt K38.law_ok hmg (K38.ok_law KX G c)⟩

