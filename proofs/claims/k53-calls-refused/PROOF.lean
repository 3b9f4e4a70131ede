import PyProof.Rows.All
import Wide.All
import OpenK.AllK
import Wide.FinOn
import HandS.ForMost
import HandS.Exc
import HandS.HeadHook1
import HandS.Lambda
import HandS.NoneIn
import HandS.CallSlots
import HandS.Defaults
import HandS.TupAny
import HandS.IsInst
import HandS.Deep
import HandS.Wide
import KE.SortData
import HandS.DictComp
import HandS.Star
import HandS.Style
import HandS.Conv
import HandS.Text
import PyProof.P3In
import HandS.More
import HandS.WordsDict
import HandS.TupLen
import HandS.Sort
import HandS.Zip
import HandS.Iter
import PyProof.EnumMake
import PyProof.WalksEnum
import PyProof.Draws
import KE.GoesEnum
import KE.GoesNew
import HandS.TupMul
import HandS.WordsExc
import HandS.HeadHook2
import HandS.ExcInit
import HandS.ExcField
import HandS.TryMany
import HandS.HeadHook3
import HandS.HeadWalk
import HandS.EndTab
import HandS.Head0
import HandS.Head1
import HandS.Head2
import HandS.HeadEnd
import HandS.Property
import HandS.HeadNt
import KE.KDictSum
import HandS.Small
import HandS.ExcOwn
import PyProof.ExcBaseAll.ValueError
import HandS.DictTup
import PyProof.TupleOfSeq
import HandS.Set
import HandS.SetTxt0
import HandS.SetFor
import HandS.Strs
import HandS.ExcIs
import HandS.HeadHook4
import HandS.SlotsOwn
import KE.KExcIs
import HandS.Comp
import KE.KDictDisplayH
import KE.DataMinMax
import PySem.Challenge.RW_classhouse_k53_calls_refused
set_option Elab.async false
set_option linter.all false
set_option maxRecDepth 100000
/-! the data layer: plain data for Python values, and what stands for them in the heap -/
namespace DL
open PySem PySem.Spec PyProof.Rows L2

inductive D where
  | non | bl (b : Bool) | int (i : Int) | str (x : Str)
  | tup (ds : List D) | ctp (ds : List D) | lst (ds : List D) | dct (kvs : List (D × D)) | dtt (kvs : List (D × D))
  | ins (c : Str) (fs : List (Str × D)) | obj (n : Nat) | cls (c : Str) | dno (ks : List (Option Int))

inductive SO where
  | lst (ds : List D) | dct (kvs : List (D × D)) | dtt (kvs : List (D × D)) | ins (c : Str) (fs : List (Str × D))

abbrev DEnv := List (Option D)
abbrev Sto := List SO

inductive Res where
  | ok (d : D) (S : Sto) | exn (x : D) (S : Sto) | stuck

inductive SRes where
  | nx (ρ : DEnv) (S : Sto) | rt (d : D) (S : Sto) | bk (ρ : DEnv) (S : Sto) | ct (ρ : DEnv) (S : Sto) | exn (x : D) (ρ : DEnv) (S : Sto) | stuck

abbrev EF := DEnv → Sto → Res
abbrev SF := DEnv → Sto → SRes
abbrev FF := List D → Sto → Res

def Res.bind (r : Res) (f : D → Sto → Res) : Res := match r with
  | .ok d S => f d S
  | .exn x S => .exn x S
  | .stuck => .stuck
def Res.ofOpt (o : Option D) (S : Sto) : Res := match o with
  | some d => .ok d S
  | none => .stuck
/-- where things stand: what is frozen, the store's addresses -/
structure Wit where
  F : Hp
  phi : Nat → Addr
  m : Nat
  T : List (Addr × Str)

def kD : Key → D
  | .inl i => .int i
  | .inr x => .str x

/-! ### a dict that tells True at None, at numbers -/
def dnK : Option Int → Option Key := fun k => k.map Sum.inl
def dnE (k : Option Int) : Option Key × Value := (dnK k, .bool true)
/-- the dict at a: True at the keys ks -/
def DNo (a : Addr) (ks : List (Option Int)) : HO := .ext fun h => (∃ o es ep, h.get? a = some o ∧ o.data = .dict es ep) ∧ (a == sysModules) = false ∧ ∀ (P : Program) (w : World), h.DictOf (noneKind P w) a (ks.map dnE)
theorem dn_nocode {a c : Addr} {q : Str} {ks : List (Option Int)} : LamX.CodeO c q ≠ DNo a ks := by
  intro e
  unfold LamX.CodeO DNo at e
  injection e with e
  let ob : Obj := { cls := .none, data := .fields #[.none, .str q 0] }
  have e1 := congrFun e (⟨(List.replicate (c + 1) ob).toArray, {}⟩ : Heap)
  have l : ∀ b o, (⟨(List.replicate (c + 1) ob).toArray, {}⟩ : Heap).get? b = some o → o = ob := by
    intro b o h
    unfold Heap.get? at h
    simp only [List.getElem?_toArray, List.getElem?_replicate] at h
    by_cases hb : b < c + 1
    · rw [if_pos hb] at h; exact (Option.some.inj h).symm
    · rw [if_neg hb] at h; cases h
  have p : (∃ (oc : Obj) (vs : Array Value) (t : Tok), (⟨(List.replicate (c + 1) ob).toArray, {}⟩ : Heap).get? c = some oc ∧ oc.data = .fields vs ∧ vs[1]? = some (.str q t)) := by
    refine ⟨ob, _, 0, ?_, rfl, rfl⟩
    unfold Heap.get?
    simp only [List.getElem?_toArray, List.getElem?_replicate]
    rw [if_pos (Nat.lt_succ_self c)]
  obtain ⟨⟨o, es, ep, g1, g2⟩, _⟩ := e1.mp p
  rw [l _ _ g1] at g2
  cases g2

mutual
inductive Rep (K : PySem.W.Frag) (w : Wit) : D → V → Prop
  | non : Rep K w .non .non
  | bl (b : Bool) : Rep K w (.bl b) (.bl b)
  | int (i : Int) : Rep K w (.int i) (.int i)
  | str (x : Str) : Rep K w (.str x) (.str x)
  | tup {a : Addr} {vs : List V} {ds : List D} (h : w.F a = some (.tup vs)) (r : Reps K w ds vs) : Rep K w (.tup ds) (.ref a)
  | ctp {a : Addr} {vs : List V} {ds : List D} (h : SqT K (fun _ => none) a vs) (r : Reps K w ds vs) : Rep K w (.ctp ds) (.ref a)
  | lst {a : Addr} {vs : List V} {ds : List D} (h : SqL K w.F a vs) (r : Reps K w ds vs) : Rep K w (.lst ds) (.ref a)
  | dK {a : Addr} {vs : List (Key × V)} {ds : List (D × D)} (h : Rd w.F a (.dK vs)) (r : RepK K w ds vs) : Rep K w (.dct ds) (.ref a)
  | dT {a : Addr} {vs : List (List Key × V)} {ds : List (D × D)} (h : w.F a = some (.dT vs)) (r : RepT K w ds vs) : Rep K w (.dtt ds) (.ref a)
  | ins {a dx : Addr} {c : Str} {fs : List (Str × D)} {vs : List (Str × V)} (h : w.F a = some (.ins (He.ga K c) dx vs)) (r : RepF K w fs vs) : Rep K w (.ins c fs) (.ref a)
  | obj {n : Nat} (h : n < w.m) : Rep K w (.obj n) (.ref (w.phi n))
  | cls (c : Str) : Rep K w (.cls c) (.ref (He.ga K c))
  | dN {a : Addr} {ks : List (Option Int)} (h : w.F a = some (DNo a ks)) : Rep K w (.dno ks) (.ref a)
inductive Reps (K : PySem.W.Frag) (w : Wit) : List D → List V → Prop
  | nil : Reps K w [] []
  | cons {d : D} {v : V} {ds : List D} {vs : List V} (h : Rep K w d v) (t : Reps K w ds vs) : Reps K w (d :: ds) (v :: vs)
inductive RepK (K : PySem.W.Frag) (w : Wit) : List (D × D) → List (Key × V) → Prop
  | nil : RepK K w [] []
  | cons {k : Key} {d : D} {v : V} {ds : List (D × D)} {vs : List (Key × V)} (h : Rep K w d v) (t : RepK K w ds vs) : RepK K w ((kD k, d) :: ds) ((k, v) :: vs)
inductive RepT (K : PySem.W.Frag) (w : Wit) : List (D × D) → List (List Key × V) → Prop
  | nil : RepT K w [] []
  | cons {k : List Key} {d : D} {v : V} {ds : List (D × D)} {vs : List (List Key × V)} (h : Rep K w d v) (t : RepT K w ds vs) : RepT K w ((.tup (k.map kD), d) :: ds) ((k, v) :: vs)
inductive RepF (K : PySem.W.Frag) (w : Wit) : List (Str × D) → List (Str × V) → Prop
  | nil : RepF K w [] []
  | cons {k : Str} {d : D} {v : V} {ds : List (Str × D)} {vs : List (Str × V)} (h : Rep K w d v) (t : RepF K w ds vs) : RepF K w ((k, d) :: ds) ((k, v) :: vs)
end

/-- w' knows all that w knows -/
structure Le (w w' : Wit) : Prop where
  F : ∀ a o, w.F a = some o → w'.F a = some o
  phi : ∀ n, n < w.m → w'.phi n = w.phi n
  le : w.m ≤ w'.m
  T : w'.T = w.T
theorem Le.refl (w : Wit) : Le w w := ⟨fun _ _ h => h, fun _ _ => rfl, Nat.le_refl _, rfl⟩
theorem Le.trans {a b c : Wit} (h : Le a b) (k : Le b c) : Le a c :=
  ⟨fun x o e => k.F x o (h.F x o e), fun n e => (k.phi n (Nat.lt_of_lt_of_le e h.le)).trans (h.phi n e), Nat.le_trans h.le k.le, k.T.trans h.T⟩

theorem Rd.monoF {F F' : Hp} {a : Addr} {u : HO} (h : ∀ a o, F a = some o → F' a = some o) (r : Rd F a u) : Rd F' a u := by
  rcases r with r | ⟨o, r⟩
  · exact .inl (h _ _ r)
  · exact .inr ⟨o, h _ _ r⟩
theorem SqL.monoF {K : PySem.W.Frag} {F F' : Hp} {a : Addr} {vs : List V} (h : ∀ a o, F a = some o → F' a = some o) (r : SqL K F a vs) : SqL K F' a vs := by
  rcases r with r | r
  · exact .inl (Rd.monoF h r)
  · exact .inr r
theorem SqT.monoF {K : PySem.W.Frag} {F F' : Hp} {a : Addr} {vs : List V} (h : ∀ a o, F a = some o → F' a = some o) (r : SqT K F a vs) : SqT K F' a vs := by
  rcases r with r | r
  · exact .inl (Rd.monoF h r)
  · exact .inr r

section
variable {K : PySem.W.Frag} {w w' : Wit}
mutual
theorem Rep.mono (l : Le w w') : ∀ {d : D} {v : V}, Rep K w d v → Rep K w' d v
  | _, _, .non => .non
  | _, _, .bl b => .bl b
  | _, _, .int b => .int b
  | _, _, .str b => .str b
  | _, _, .tup h r => .tup (l.F _ _ h) (Reps.mono l r)
  | _, _, .ctp h r => .ctp h (Reps.mono l r)
  | _, _, .lst h r => .lst (SqL.monoF l.F h) (Reps.mono l r)
  | _, _, .dK h r => .dK (h.imp (l.F _ _) fun ⟨o, e⟩ => ⟨o, l.F _ _ e⟩) (RepK.mono l r)
  | _, _, .dT h r => .dT (l.F _ _ h) (RepT.mono l r)
  | _, _, .ins h r => .ins (l.F _ _ h) (RepF.mono l r)
  | _, _, .obj h => l.phi _ h ▸ Rep.obj (Nat.lt_of_lt_of_le h l.le)
  | _, _, .cls c => .cls c
  | _, _, .dN h => .dN (l.F _ _ h)
theorem Reps.mono (l : Le w w') : ∀ {ds : List D} {vs : List V}, Reps K w ds vs → Reps K w' ds vs
  | _, _, .nil => .nil
  | _, _, .cons h t => .cons (Rep.mono l h) (Reps.mono l t)
theorem RepK.mono (l : Le w w') : ∀ {ds : List (D × D)} {vs : List (Key × V)}, RepK K w ds vs → RepK K w' ds vs
  | _, _, .nil => .nil
  | _, _, .cons h t => .cons (Rep.mono l h) (RepK.mono l t)
theorem RepT.mono (l : Le w w') : ∀ {ds : List (D × D)} {vs : List (List Key × V)}, RepT K w ds vs → RepT K w' ds vs
  | _, _, .nil => .nil
  | _, _, .cons h t => .cons (Rep.mono l h) (RepT.mono l t)
theorem RepF.mono (l : Le w w') : ∀ {ds : List (Str × D)} {vs : List (Str × V)}, RepF K w ds vs → RepF K w' ds vs
  | _, _, .nil => .nil
  | _, _, .cons h t => .cons (Rep.mono l h) (RepF.mono l t)
end
theorem Reps.length {ds : List D} {vs : List V} (h : Reps K w ds vs) : ds.length = vs.length := by
  induction ds generalizing vs with
  | nil => cases h; rfl
  | cons d ds ih => cases h with | cons h t => simp [ih t]
theorem Reps.get {ds : List D} {vs : List V} (h : Reps K w ds vs) {i : Nat} {d : D} (e : ds[i]? = some d) : ∃ v, vs[i]? = some v ∧ Rep K w d v := by
  induction ds generalizing vs i with
  | nil => simp at e
  | cons x ds ih => cases h with
    | cons h t =>
      cases i with
      | zero => simp at e; subst e; exact ⟨_, rfl, h⟩
      | succ i => simpa using ih t (by simpa using e)
theorem Reps.append {ds es : List D} {vs us : List V} (h : Reps K w ds vs) (k : Reps K w es us) : Reps K w (ds ++ es) (vs ++ us) := by
  induction ds generalizing vs with
  | nil => cases h; exact k
  | cons x ds ih => cases h with | cons h t => exact .cons h (ih t)
theorem Reps.take {ds : List D} {vs : List V} (h : Reps K w ds vs) (n : Nat) : Reps K w (ds.take n) (vs.take n) := by
  induction ds generalizing vs n with
  | nil => cases h; simpa using Reps.nil
  | cons x ds ih => cases h with
    | cons h t => cases n with
      | zero => exact .nil
      | succ n => exact .cons h (ih t n)
theorem Reps.drop {ds : List D} {vs : List V} (h : Reps K w ds vs) (n : Nat) : Reps K w (ds.drop n) (vs.drop n) := by
  induction ds generalizing vs n with
  | nil => cases h; simpa using Reps.nil
  | cons x ds ih => cases h with
    | cons h t => cases n with
      | zero => exact .cons h t
      | succ n => exact ih t n
theorem Reps.reverse {ds : List D} {vs : List V} (h : Reps K w ds vs) : Reps K w ds.reverse vs.reverse := by
  induction ds generalizing vs with
  | nil => cases h; exact .nil
  | cons x ds ih => cases h with | cons h t => simpa using (ih t).append (.cons h .nil)
theorem Reps.set {ds : List D} {vs : List V} (h : Reps K w ds vs) (i : Nat) {d : D} {v : V} (r : Rep K w d v) : Reps K w (ds.set i d) (vs.set i v) := by
  induction ds generalizing vs i with
  | nil => cases h; exact .nil
  | cons x ds ih => cases h with
    | cons h t => cases i with
      | zero => exact .cons r t
      | succ n => exact .cons h (ih t n)
end

/-- what stands in the store -/
def RepO (K : PySem.W.Frag) (w : Wit) (H : Hp) (a : Addr) : SO → Prop
  | .lst ds => ∃ vs, H a = some (.lst vs) ∧ Reps K w ds vs
  | .dct ds => ∃ vs, H a = some (.dK vs) ∧ RepK K w ds vs
  | .dtt ds => ∃ vs, H a = some (.dT vs) ∧ RepT K w ds vs
  | .ins c fs => ∃ dx vs, H a = some (.ins (He.ga K c) dx vs) ∧ RepF K w fs vs

theorem RepO.mono {K : PySem.W.Frag} {w w' : Wit} {H H' : Hp} {a : Addr} (l : Le w w') (h : ∀ o, H a = some o → H' a = some o) : ∀ {o : SO}, RepO K w H a o → RepO K w' H' a o
  | .lst _, ⟨vs, e, r⟩ => ⟨vs, h _ e, r.mono l⟩
  | .dct _, ⟨vs, e, r⟩ => ⟨vs, h _ e, r.mono l⟩
  | .dtt _, ⟨vs, e, r⟩ => ⟨vs, h _ e, r.mono l⟩
  | .ins _ _, ⟨dx, vs, e, r⟩ => ⟨dx, vs, h _ e, r.mono l⟩
theorem RepO.there {K : PySem.W.Frag} {w : Wit} {H : Hp} {a : Addr} : ∀ {o : SO}, RepO K w H a o → H a ≠ none
  | .lst _, ⟨vs, e, r⟩ => by rw [e]; simp
  | .dct _, ⟨vs, e, r⟩ => by rw [e]; simp
  | .dtt _, ⟨vs, e, r⟩ => by rw [e]; simp
  | .ins _ _, ⟨dx, vs, e, r⟩ => by rw [e]; simp

/-- tables of code objects -/
structure Tbs (w : Wit) (H : Hp) : Prop where
  t : LamX.Tabs w.T H
  f : ∀ a ps, w.F a ≠ some (.tbl ps)
theorem RepO.notbl {K : PySem.W.Frag} {w : Wit} {H : Hp} {a : Addr} {ps : Array Value} : ∀ {o : SO}, RepO K w H a o → H a ≠ some (.tbl ps)
  | .lst _, ⟨vs, e, r⟩ => by rw [e]; simp
  | .dct _, ⟨vs, e, r⟩ => by rw [e]; simp
  | .dtt _, ⟨vs, e, r⟩ => by rw [e]; simp
  | .ins _ _, ⟨dx, vs, e, r⟩ => by rw [e]; simp
theorem codeO_ne' {c : Addr} {q : Str} {o : HO} (h : ∀ f, o ≠ .ext f) : LamX.CodeO c q ≠ o := fun e => h _ e.symm
theorem RepO.nocode {K : PySem.W.Frag} {w : Wit} {H : Hp} {a c : Addr} {q : Str} : ∀ {o : SO}, RepO K w H a o → H a ≠ some (LamX.CodeO c q)
  | .lst _, ⟨vs, e, r⟩ => by rw [e]; intro z; exact codeO_ne' (fun f z => by cases z) (Option.some.inj z).symm
  | .dct _, ⟨vs, e, r⟩ => by rw [e]; intro z; exact codeO_ne' (fun f z => by cases z) (Option.some.inj z).symm
  | .dtt _, ⟨vs, e, r⟩ => by rw [e]; intro z; exact codeO_ne' (fun f z => by cases z) (Option.some.inj z).symm
  | .ins _ _, ⟨dx, vs, e, r⟩ => by rw [e]; intro z; exact codeO_ne' (fun f z => by cases z) (Option.some.inj z).symm
theorem Tbs.to {w w' : Wit} {H H' : Hp} (t : Tbs w H) (e : w'.T = w.T) (hf : ∀ a ps, w'.F a ≠ some (.tbl ps)) (k : ∀ b o, H b = some o → (∃ ps, o = .tbl ps) ∨ (∃ c q, o = LamX.CodeO c q) → H' b = some o) : Tbs w' H' where
  t := fun p hp => by
    rw [e] at hp
    obtain ⟨ps, h1, h2, h3⟩ := t.t p hp
    refine ⟨ps, k _ _ h1 (.inl ⟨_, rfl⟩), h2, fun pos cv hc => ?_⟩
    obtain ⟨c, e1, e2⟩ := h3 pos cv hc
    exact ⟨c, e1, k _ _ e2 (.inr ⟨_, _, rfl⟩)⟩
  f := hf
/-- the heap bears the store -/
structure Gd (K : PySem.W.Frag) (w : Wit) (H : Hp) (S : Sto) : Prop where
  len : w.m = S.length
  sub : ∀ a o, w.F a = some o → H a = some o
  sto : ∀ n o, S[n]? = some o → RepO K w H (w.phi n) o
  inj : ∀ i j, i < w.m → j < w.m → w.phi i = w.phi j → i = j
  nofz : ∀ i, i < w.m → w.F (w.phi i) = none
  tab : Tbs w H

/-- a thing that is no tuple -/
def NT (o : Option HO) : Prop := ∃ u, o = some u ∧ ∀ vs ps, ¬ (u = .tup vs ∨ u = .tbl ps)
theorem NT.ne {o : Option HO} (h : NT o) : o ≠ none := by
  obtain ⟨u, e, _⟩ := h
  rw [e]; simp
/-- nothing of ours -/
def Nb (o : Option HO) : Prop := o = none ∨ ∃ ps, o = some (.tbl ps)
instance nbCoe {o : Option HO} : Coe (o = none) (Nb o) := ⟨.inl⟩
theorem Nb.of {o : Option HO} (h : o = none) : Nb o := .inl h
theorem not_nb {o : Option HO} {u : HO} (e : o = some u) (h : ∀ ps, u ≠ .tbl ps) : ¬ Nb o := by
  rintro (q | ⟨ps, q⟩)
  · rw [e] at q; cases q
  · rw [e] at q; cases q; exact h ps rfl
theorem NT.nb {o : Option HO} (h : NT o) : ¬ Nb o := by
  obtain ⟨u, e, k⟩ := h
  exact not_nb e fun ps z => k [] ps (.inr z)
/-- from one state to a later one: nothing but the store's objects has changed -/
structure Ext (w : Wit) (H : Hp) (w' : Wit) (H' : Hp) : Prop where
  le : Le w w'
  new : ∀ n, w.m ≤ n → n < w'.m → Nb (H (w'.phi n))
  keep : ∀ a o, H a = some o → ((∃ n, n < w.m ∧ w.phi n = a) ∨ ∃ ps, o = .tbl ps) ∨ H' a = some o
  there : ∀ a, Nb (H' a) → Nb (H a)
  fz : ∀ a, NT (H a) → w.F a = none → w'.F a = none ∧ NT (H' a)
theorem Ext.refl (w : Wit) (H : Hp) : Ext w H w H := ⟨.refl w, fun n h k => absurd k (Nat.not_lt.mpr h), fun _ _ h => .inr h, fun _ h => h, fun _ h k => ⟨k, h⟩⟩
theorem Ext.trans {w w1 w2 : Wit} {H H1 H2 : Hp} (a : Ext w H w1 H1) (b : Ext w1 H1 w2 H2) : Ext w H w2 H2 where
  le := a.le.trans b.le
  new := fun n h k => by
    by_cases c : n < w1.m
    · rw [b.le.phi n c]; exact a.new n h c
    · exact a.there _ (b.new n (Nat.not_lt.mp c) k)
  keep := fun x o e => by
    rcases a.keep x o e with h | h
    · exact .inl h
    · rcases b.keep x o h with (⟨n, hn, en⟩ | h) | h
      · by_cases c : n < w.m
        · exact .inl (.inl ⟨n, c, (a.le.phi n c).symm.trans en⟩)
        · have := a.new n (Nat.not_lt.mp c) hn
          rw [en, e] at this
          rcases this with z | ⟨ps, z⟩
          · cases z
          · cases z; exact .inl (.inr ⟨_, rfl⟩)
      · exact .inl (.inr h)
      · exact .inr h
  there := fun x h => a.there x (b.there x h)
  fz := fun x h k => b.fz x (a.fz x h k).2 (a.fz x h k).1

/-- a list or a dict that nobody else knows -/
def Own (K : PySem.W.Frag) (w : Wit) (H : Hp) (d : D) (a : Addr) : Prop :=
  w.F a = none ∧ (∀ n, n < w.m → w.phi n ≠ a) ∧ match d with
    | .lst ds => ∃ vs, H a = some (.lst vs) ∧ Reps K w ds vs
    | .dct ds => ∃ vs, H a = some (.dK vs) ∧ RepK K w ds vs
    | .dtt ds => ∃ vs, H a = some (.dT vs) ∧ RepT K w ds vs
    | .dno ks => H a = some (DNo a ks)
    | _ => False
theorem Own.there {K : PySem.W.Frag} {w : Wit} {H : Hp} {d : D} {a : Addr} (h : Own K w H d a) : H a ≠ none := by
  obtain ⟨_, _, h⟩ := h
  cases d with
  | lst ds => obtain ⟨vs, e, _⟩ := h; rw [e]; simp
  | dct ds => obtain ⟨vs, e, _⟩ := h; rw [e]; simp
  | dtt ds => obtain ⟨vs, e, _⟩ := h; rw [e]; simp
  | dno ds => rw [show H a = some (DNo a ds) from h]; unfold DNo; simp
  | _ => exact h.elim
theorem Own.notbl {K : PySem.W.Frag} {w : Wit} {H : Hp} {d : D} {a : Addr} {ps : Array Value} (h : Own K w H d a) : H a ≠ some (.tbl ps) := by
  obtain ⟨_, _, h⟩ := h
  cases d with
  | lst ds => obtain ⟨vs, e, _⟩ := h; rw [e]; simp
  | dct ds => obtain ⟨vs, e, _⟩ := h; rw [e]; simp
  | dtt ds => obtain ⟨vs, e, _⟩ := h; rw [e]; simp
  | dno ds => rw [show H a = some (DNo a ds) from h]; unfold DNo; simp
  | _ => exact h.elim
theorem Own.nocode {K : PySem.W.Frag} {w : Wit} {H : Hp} {d : D} {a c : Addr} {q : Str} (h : Own K w H d a) : H a ≠ some (LamX.CodeO c q) := by
  obtain ⟨_, _, h⟩ := h
  cases d with
  | lst ds => obtain ⟨vs, e, _⟩ := h; rw [e]; intro z; exact codeO_ne' (fun f z => by cases z) (Option.some.inj z).symm
  | dct ds => obtain ⟨vs, e, _⟩ := h; rw [e]; intro z; exact codeO_ne' (fun f z => by cases z) (Option.some.inj z).symm
  | dtt ds => obtain ⟨vs, e, _⟩ := h; rw [e]; intro z; exact codeO_ne' (fun f z => by cases z) (Option.some.inj z).symm
  | dno ds => rw [show H a = some (DNo a ds) from h]; intro z; exact dn_nocode (Option.some.inj z).symm
  | _ => exact h.elim
theorem Own.nt {K : PySem.W.Frag} {w : Wit} {H : Hp} {d : D} {a : Addr} (h : Own K w H d a) : NT (H a) := by
  obtain ⟨_, _, h⟩ := h
  cases d with
  | lst ds => obtain ⟨vs, e, _⟩ := h; exact ⟨_, e, fun _ _ q => by rcases q with q | q <;> cases q⟩
  | dct ds => obtain ⟨vs, e, _⟩ := h; exact ⟨_, e, fun _ _ q => by rcases q with q | q <;> cases q⟩
  | dtt ds => obtain ⟨vs, e, _⟩ := h; exact ⟨_, e, fun _ _ q => by rcases q with q | q <;> cases q⟩
  | dno ds => exact ⟨_, show H a = some (DNo a ds) from h, fun _ _ q => by rcases q with q | q <;> (unfold DNo at q; cases q)⟩
  | _ => exact h.elim
theorem Own.ext {K : PySem.W.Frag} {w w' : Wit} {H H' : Hp} {d : D} {a : Addr} (h : Own K w H d a) (x : Ext w H w' H') : Own K w' H' d a := by
  have ht := h.there
  have hn' := h.nt
  obtain ⟨h1, h2, h3⟩ := h
  have ow : Own K w H d a := ⟨h1, h2, h3⟩
  have kp : ∀ o, H a = some o → H' a = some o := fun o e => by
    rcases x.keep a o e with (⟨n, hn, en⟩ | ⟨ps, q⟩) | q
    · exact absurd en (h2 n hn)
    · exact absurd (q ▸ e) ow.notbl
    · exact q
  refine ⟨(x.fz a hn' h1).1, fun n hn e => ?_, ?_⟩
  · by_cases c : n < w.m
    · exact h2 n c ((x.le.phi n c).symm.trans e)
    · exact hn'.nb (e ▸ x.new n (Nat.not_lt.mp c) hn)
  · cases d with
    | lst ds => obtain ⟨vs, e, r⟩ := h3; exact ⟨vs, kp _ e, r.mono x.le⟩
    | dct ds => obtain ⟨vs, e, r⟩ := h3; exact ⟨vs, kp _ e, r.mono x.le⟩
    | dtt ds => obtain ⟨vs, e, r⟩ := h3; exact ⟨vs, kp _ e, r.mono x.le⟩
    | dno ds => exact kp _ h3
    | _ => exact h3.elim
/-! ### exceptions -/
def RepX (K : PySem.W.Frag) (w : Wit) (H : Hp) (x : D) (cls : Value) (dx : Option Addr) : Prop :=
  ∃ c fs, x = .ins c fs ∧ cls = .ref (He.ga K c) ∧ ((dx = none ∧ fs = []) ∨ ∃ d vs, dx = some d ∧ H d = some (.xd vs) ∧ RepF K w fs vs ∧ fs ≠ [])
theorem RepX.mono {K : PySem.W.Frag} {w w' : Wit} {H : Hp} {x : D} {cls : Value} {dx : Option Addr} (l : Le w w') (h : RepX K w H x cls dx) : RepX K w' H x cls dx := by
  obtain ⟨c, fs, e1, e2, h⟩ := h
  refine ⟨c, fs, e1, e2, ?_⟩
  rcases h with h | ⟨d, vs, a, b, r⟩
  · exact .inl h
  · exact .inr ⟨d, vs, a, b, r.1.mono l, r.2⟩
theorem RepX.keeps {K : PySem.W.Frag} {w : Wit} {H H' : Hp} {x : D} {cls : Value} {dx : Option Addr} (h : RepX K w H x cls dx) (k : ∀ d vs, H d = some (.xd vs) → H' d = some (.xd vs)) : RepX K w H' x cls dx := by
  obtain ⟨c, fs, e1, e2, h⟩ := h
  refine ⟨c, fs, e1, e2, ?_⟩
  rcases h with h | ⟨d, vs, a, b, r⟩
  · exact .inl h
  · exact .inr ⟨d, vs, a, k _ _ b, r⟩
theorem RepO.noxd {K : PySem.W.Frag} {w : Wit} {H : Hp} {a : Addr} {fs : List (Str × V)} : ∀ {o : SO}, RepO K w H a o → H a ≠ some (.xd fs)
  | .lst _, ⟨vs, e, r⟩ => by rw [e]; intro z; cases z
  | .dct _, ⟨vs, e, r⟩ => by rw [e]; intro z; cases z
  | .dtt _, ⟨vs, e, r⟩ => by rw [e]; intro z; cases z
  | .ins _ _, ⟨dx, vs, e, r⟩ => by rw [e]; intro z; cases z
theorem Own.noxd {K : PySem.W.Frag} {w : Wit} {H : Hp} {d : D} {a : Addr} {fs : List (Str × V)} (h : Own K w H d a) : H a ≠ some (.xd fs) := by
  obtain ⟨_, _, h⟩ := h
  cases d with
  | lst ds => obtain ⟨vs, e, _⟩ := h; rw [e]; intro z; cases z
  | dct ds => obtain ⟨vs, e, _⟩ := h; rw [e]; intro z; cases z
  | dtt ds => obtain ⟨vs, e, _⟩ := h; rw [e]; intro z; cases z
  | dno ds => rw [show H a = some (DNo a ds) from h]; intro z; unfold DNo at z; cases z
  | _ => exact h.elim
theorem RepX.ext {K : PySem.W.Frag} {w w' : Wit} {H H' : Hp} {S : Sto} {x : D} {cls : Value} {dx : Option Addr} (h : RepX K w H x cls dx) (g : Gd K w H S) (y : Ext w H w' H') : RepX K w' H' x cls dx := by
  refine (h.keeps fun d vs e => ?_).mono y.le
  rcases y.keep d _ e with (⟨n, hn, en⟩ | ⟨ps, q⟩) | q
  · obtain ⟨o, ho⟩ : ∃ o, S[n]? = some o := ⟨_, List.getElem?_eq_getElem (by rw [← g.len]; exact hn)⟩
    exact absurd (en ▸ e) (g.sto n o ho).noxd
  · cases q
  · exact q
/-- the exception that an except suite has caught: its name's slot, where it stands, what it is -/
structure XC where
  i : Nat
  a : Addr
  cls : Value
  dx : Option Addr
  x : D
  th : Option (Wit × Hp)
  T : List (Addr × Str)

/-! ### the state of a def's body -/
structure Ent (Z : Option XC) where
  w : Wit
  H : Hp
  k : Wit

structure R (K : PySem.W.Frag) {Z : Option XC} (ent : Ent Z) (O : List Nat) (w : Wit) (H : Hp) (σ : L2.St) (ρ : DEnv) (S : Sto) : Prop where
  gd : Gd K w H S
  ext : Ext ent.w ent.H w H
  kn : Le ent.k w
  val : ∀ i d, ρ[i]? = some (some d) → i ∉ O → ∃ v, σ[i]? = some (some v) ∧ Rep K w d v
  own : ∀ i d, ρ[i]? = some (some d) → i ∈ O → ∃ a, σ[i]? = some (some (.ref a)) ∧ Own K w H d a ∧ Nb (ent.H a)
  dis : ∀ i j a, i ∈ O → j ∈ O → (∃ d, ρ[i]? = some (some d)) → (∃ d, ρ[j]? = some (some d)) → σ[i]? = some (some (.ref a)) → σ[j]? = some (some (.ref a)) → i = j
  len : ρ.length = σ.length
  exc : ∀ z, Z = some z → z.i ∈ O → ρ[z.i]? = some none → σ[z.i]? = some (some (.ref z.a)) ∧ RepX K w H z.x z.cls z.dx
  thk : ∀ z, Z = some z → (∀ p, z.th = some p → ent.w = p.1 ∧ ent.H = p.2) ∧ (z.T ≠ [] → w.T = z.T)

section
variable {K : PySem.W.Frag} {Z : Option XC} {ent : Ent Z} {O : List Nat} {w w' : Wit} {H H' : Hp} {σ : L2.St} {ρ : DEnv} {S S' : Sto}
theorem R.later (r : R K ent O w H σ ρ S) (x : Ext w H w' H') (g : Gd K w' H' S') : R K ent O w' H' σ ρ S' where
  gd := g
  ext := r.ext.trans x
  kn := r.kn.trans x.le
  val := fun i d e n => let ⟨v, h1, h2⟩ := r.val i d e n; ⟨v, h1, h2.mono x.le⟩
  own := fun i d e n => let ⟨a, h1, h2, h3⟩ := r.own i d e n; ⟨a, h1, h2.ext x, h3⟩
  dis := r.dis
  len := r.len
  exc := fun z hz hi hn => let ⟨h1, h2⟩ := r.exc z hz hi hn; ⟨h1, h2.ext r.gd x⟩
  thk := fun z hz => ⟨(r.thk z hz).1, fun h => x.le.T.trans ((r.thk z hz).2 h)⟩
theorem R.sub (r : R K ent O w H σ ρ S) {O' : List Nat} (h : ∀ i, i ∈ O ↔ i ∈ O') : R K ent O' w H σ ρ S :=
  ⟨r.gd, r.ext, r.kn, fun i d e n => r.val i d e (fun z => n ((h i).mp z)), fun i d e n => r.own i d e ((h i).mpr n), fun i j a hi hj => r.dis i j a ((h i).mpr hi) ((h j).mpr hj), r.len, fun z hz hi => r.exc z hz ((h _).mpr hi), r.thk⟩
/-- a slot is stored, the value is known to all -/
theorem R.put (r : R K ent O w H σ ρ S) {i : Nat} {d : D} {v : V} (hi : i ∉ O) (h : Rep K w d v) : R K ent O w H (σ.set i (some v)) (ρ.set i (some d)) S where
  gd := r.gd
  ext := r.ext
  kn := r.kn
  val := fun j e hj n => by
    by_cases q : i = j
    · subst q
      have hl : i < ρ.length := by
        have := (List.getElem?_eq_some_iff.mp hj).1; simpa using this
      rw [List.getElem?_set_self hl] at hj; cases hj
      exact ⟨v, List.getElem?_set_self (by rw [← r.len]; exact hl), h⟩
    · rw [List.getElem?_set_ne q] at hj
      obtain ⟨u, h1, h2⟩ := r.val j e hj n
      exact ⟨u, by rw [List.getElem?_set_ne q]; exact h1, h2⟩
  own := fun j e hj n => by
    have q : i ≠ j := fun z => hi (z ▸ n)
    rw [List.getElem?_set_ne q] at hj
    obtain ⟨u, h1, h2⟩ := r.own j e hj n
    exact ⟨u, by rw [List.getElem?_set_ne q]; exact h1, h2⟩
  dis := fun j k a hj hk ej ek sj sk => by
    have q1 : i ≠ j := fun z => hi (z ▸ hj)
    have q2 : i ≠ k := fun z => hi (z ▸ hk)
    rw [List.getElem?_set_ne q1] at ej sj
    rw [List.getElem?_set_ne q2] at ek sk
    exact r.dis j k a hj hk ej ek sj sk
  len := by simpa using r.len
  exc := fun z hz hj hn => by
    have q : i ≠ z.i := fun e => hi (e ▸ hj)
    rw [List.getElem?_set_ne q] at hn ⊢
    exact r.exc z hz hj hn
  thk := r.thk
/-- the def's own list, dict is changed -/
theorem R.upd (r : R K ent O w H σ ρ S) {i : Nat} {d d' : D} {a : Addr} {o : HO} (hi : i ∈ O) (hd : ρ[i]? = some (some d)) (hs : σ[i]? = some (some (.ref a))) (h : Own K w (upd H a o) d' a) : R K ent O w (upd H a o) σ (ρ.set i (some d')) S := by
  obtain ⟨b, s1, s2, s3⟩ := r.own i d hd hi
  rw [hs] at s1
  cases s1
  obtain ⟨t1, t2, t3⟩ := s2
  have hl : i < ρ.length := (List.getElem?_eq_some_iff.mp hd).1
  have ow : Own K w H d a := ⟨t1, t2, t3⟩
  have hnb : ¬ Nb (L2.upd H a o a) := h.nt.nb
  refine ⟨⟨r.gd.len, fun b u e => ?_, fun n u e => ?_, r.gd.inj, r.gd.nofz, r.gd.tab.to rfl r.gd.tab.f fun b u e hu => ?_⟩, ⟨r.ext.le, r.ext.new, fun b u e => ?_, fun b hb => ?_, fun b hb e => ⟨(r.ext.fz b hb e).1, by rw [upd_ne (fun q => hb.nb (by rw [q]; exact s3))]; exact (r.ext.fz b hb e).2⟩⟩, r.kn, fun j e hj n => ?_, fun j e hj n => ?_, fun j k b hj hk ej ek => r.dis j k b hj hk ?_ ?_, by simpa using r.len, fun z hz hj hn => ?_, r.thk⟩
  · rw [upd_ne (fun q => by rw [q, t1] at e; cases e)]
    exact r.gd.sub b u e
  · have ne : w.phi n ≠ a := t2 n (by rw [r.gd.len]; exact (List.getElem?_eq_some_iff.mp e).1)
    exact (r.gd.sto n u e).mono (.refl w) fun z hz => by rw [upd_ne ne]; exact hz
  · rw [upd_ne]
    · exact e
    · rintro rfl
      rcases hu with ⟨ps, rfl⟩ | ⟨c, q, rfl⟩
      · exact ow.notbl e
      · exact ow.nocode e
  · rcases r.ext.keep b u e with z | z
    · exact .inl z
    · by_cases q : b = a
      · subst q
        rcases s3 with s3 | ⟨ps, s3⟩
        · rw [s3] at e; cases e
        · rw [s3] at e; cases e; exact .inl (.inr ⟨_, rfl⟩)
      · refine .inr ?_
        rw [upd_ne q]
        exact z
  · by_cases q : b = a
    · exact absurd (q ▸ hb) hnb
    · rw [upd_ne q] at hb; exact r.ext.there b hb
  · have q : i ≠ j := fun z => n (z ▸ hi)
    rw [List.getElem?_set_ne q] at hj
    exact r.val j e hj n
  · by_cases q : i = j
    · subst q
      rw [List.getElem?_set_self hl] at hj; cases hj
      exact ⟨a, hs, h, s3⟩
    · rw [List.getElem?_set_ne q] at hj
      obtain ⟨b, u1, u2, u3⟩ := r.own j e hj n
      have ne : b ≠ a := fun z => q (r.dis i j b hi n ⟨_, hd⟩ ⟨_, hj⟩ (by rw [z]; exact hs) u1)
      refine ⟨b, u1, ⟨u2.1, u2.2.1, ?_⟩, u3⟩
      obtain ⟨_, _, u4⟩ := u2
      cases e with
      | lst ds => obtain ⟨vs, e, r⟩ := u4; exact ⟨vs, by rw [upd_ne ne]; exact e, r⟩
      | dct ds => obtain ⟨vs, e, r⟩ := u4; exact ⟨vs, by rw [upd_ne ne]; exact e, r⟩
      | dtt ds => obtain ⟨vs, e, r⟩ := u4; exact ⟨vs, by rw [upd_ne ne]; exact e, r⟩
      | dno ds => exact (upd_ne ne).trans u4
      | _ => exact u4.elim
  · obtain ⟨z, ez⟩ := ej
    by_cases q : i = j
    · exact ⟨_, q ▸ hd⟩
    · rw [List.getElem?_set_ne q] at ez; exact ⟨z, ez⟩
  · obtain ⟨z, ez⟩ := ek
    by_cases q : i = k
    · exact ⟨_, q ▸ hd⟩
    · rw [List.getElem?_set_ne q] at ez; exact ⟨z, ez⟩
  · by_cases q : i = z.i
    · rw [← q, List.getElem?_set_self hl] at hn; cases hn
    · rw [List.getElem?_set_ne q] at hn
      obtain ⟨h1, h2⟩ := r.exc z hz hj hn
      refine ⟨h1, h2.keeps fun dd vs e => ?_⟩
      have hno : ∀ fs, H a ≠ some (.xd fs) := fun fs => Own.noxd (K := K) (w := w) (d := d) ⟨t1, t2, t3⟩
      have ne : dd ≠ a := fun e' => hno vs (by rw [← e']; exact e)
      rw [upd_ne ne]
      exact e
/-- an object of the store is changed -/
theorem Gd.put (g : Gd K w H S) {n : Nat} {o o' : SO} {u : HO} (hn : S[n]? = some o) (h : RepO K w (upd H (w.phi n) u) (w.phi n) o') : Gd K w (upd H (w.phi n) u) (S.set n o') := by
  have hl : n < S.length := (List.getElem?_eq_some_iff.mp hn).1
  have rn := g.sto n o hn
  refine ⟨by simpa using g.len, fun b v e => ?_, fun k v e => ?_, g.inj, g.nofz, g.tab.to rfl g.tab.f fun b v e hv => by
    rw [upd_ne]
    · exact e
    · rintro rfl
      rcases hv with ⟨ps, rfl⟩ | ⟨c, q, rfl⟩
      · exact rn.notbl e
      · exact rn.nocode e⟩
  · rw [upd_ne (fun q => by rw [q, g.nofz n (by rw [g.len]; exact hl)] at e; cases e)]
    exact g.sub b v e
  · by_cases q : n = k
    · subst q
      rw [List.getElem?_set_self hl] at e; cases e
      exact h
    · rw [List.getElem?_set_ne q] at e
      have hk : k < S.length := (List.getElem?_eq_some_iff.mp e).1
      have ne : w.phi k ≠ w.phi n := fun z => q (g.inj _ _ (by rw [g.len]; exact hk) (by rw [g.len]; exact hl) z).symm
      exact (g.sto k v e).mono (.refl w) fun z hz => by rw [upd_ne ne]; exact hz
theorem RepO.ntU {K : PySem.W.Frag} {w : Wit} {H : Hp} {a : Addr} {u : HO} {o : SO} (h : RepO K w (upd H a u) a o) : NT (some u) := by
  have e : upd H a u a = some u := upd_same
  cases o with
  | lst ds => obtain ⟨vs, q, _⟩ := h; rw [e] at q; exact ⟨_, q, fun _ _ z => by rcases z with z | z <;> cases z⟩
  | dct ds => obtain ⟨vs, q, _⟩ := h; rw [e] at q; exact ⟨_, q, fun _ _ z => by rcases z with z | z <;> cases z⟩
  | dtt ds => obtain ⟨vs, q, _⟩ := h; rw [e] at q; exact ⟨_, q, fun _ _ z => by rcases z with z | z <;> cases z⟩
  | ins c fs => obtain ⟨dx, vs, q, _⟩ := h; rw [e] at q; exact ⟨_, q, fun _ _ z => by rcases z with z | z <;> cases z⟩
theorem Ext.put (w : Wit) (H : Hp) {n : Nat} {u : HO} (hn : n < w.m) (ht : H (w.phi n) ≠ none) (hu : NT (some u)) : Ext w H w (upd H (w.phi n) u) where
  le := .refl w
  new := fun k h q => absurd q (Nat.not_lt.mpr h)
  keep := fun a o e => by
    by_cases q : a = w.phi n
    · exact .inl (.inl ⟨n, hn, q.symm⟩)
    · exact .inr (by rw [upd_ne q]; exact e)
  there := fun a h => by
    by_cases q : a = w.phi n
    · subst q; rw [upd_same] at h; exact absurd h hu.nb
    · rw [upd_ne q] at h; exact h
  fz := fun a h k => ⟨k, by
    by_cases q : a = w.phi n
    · rw [q, upd_same]; exact hu
    · rw [upd_ne q]; exact h⟩
end
/-- a new object, known to all -/
def Wit.new (w : Wit) (a : Addr) (o : HO) : Wit := { w with F := L2.upd w.F a o }
section
variable {K : PySem.W.Frag} {w : Wit} {H : Hp} {S : Sto} {a : Addr} {o : HO}
theorem Le.new (h : w.F a = none) : Le w (w.new a o) := ⟨fun b u e => by
  show L2.upd w.F a o b = some u
  rw [upd_ne (fun q => by rw [q, h] at e; cases e)]; exact e, fun _ _ => rfl, Nat.le_refl _, rfl⟩
theorem Gd.noneF (g : Gd K w H S) (h : H a = none) : w.F a = none := by
  cases e : w.F a with
  | none => rfl
  | some u => rw [g.sub a u e] at h; cases h
theorem Gd.nophi (g : Gd K w H S) (h : H a = none) : ∀ n, n < w.m → w.phi n ≠ a := fun n hn q => by
  rw [g.len] at hn
  have := (g.sto n _ (List.getElem?_eq_getElem hn)).there
  exact this (q ▸ h)
theorem Gd.new (g : Gd K w H S) (h : H a = none) (hnt : ∀ ps, o ≠ .tbl ps := by intro _ hnt; cases hnt) : Gd K (w.new a o) (upd H a o) S where
  len := g.len
  sub := fun b u e => by
    by_cases q : b = a
    · subst q
      rw [show (w.new b o).F b = some o from upd_same] at e; cases e
      exact upd_same
    · rw [show (w.new a o).F b = w.F b from upd_ne q] at e
      rw [upd_ne q]; exact g.sub b u e
  sto := fun n u e => (g.sto n u e).mono (Le.new (g.noneF h)) fun z hz => by
    show upd H a o (w.phi n) = some z
    rw [upd_ne (fun q => by rw [q, h] at hz; cases hz)]; exact hz
  inj := g.inj
  nofz := fun i hi => by
    show L2.upd w.F a o (w.phi i) = none
    rw [upd_ne (g.nophi h i hi)]; exact g.nofz i hi
  tab := g.tab.to rfl (fun b ps e => by
    have e : L2.upd w.F a o b = some (.tbl ps) := e
    by_cases q : b = a
    · subst q; rw [upd_same] at e; exact hnt ps (Option.some.inj e)
    · rw [upd_ne q] at e; exact g.tab.f b ps e) fun b u e _ => by rw [upd_ne (fun q => by rw [q, h] at e; cases e)]; exact e
end
end DL

/-! the judgements of the data layer -/
namespace DL
open PySem PySem.Spec PyProof.Rows L2

/-- how a value is known: to all; seen; new and nobody's -/
inductive Kd where | e | b | f
/-- what is wished of exceptions; what an except suite has caught -/
structure WZ where
  wx : WX
  xc : Option XC
  rk : Kd
def WZ.no (W : WZ) : WZ := ⟨fun _ _ _ _ => False, W.xc, W.rk⟩
section
variable {K : PySem.W.Frag} {k : Kd} {w w1 : Wit} {H H1 : Hp} {W : WZ} {σ : L2.St} {r : Res} {Q Q' : VK}
end

theorem _root_.L2.PE.imp {X : Cx} {e : Expr} {t t' : TE} (h : PE X e t) (i : ∀ σ H Q, t' σ H Q → t σ H Q) : PE X e t' := ⟨fun pins s σ H Q I q => h.run pins s σ H Q I (i σ H Q q)⟩
theorem _root_.L2.PT.imp {X : Cx} {e : Expr} {t t' : TT} (h : PT X e t) (i : ∀ σ H Q, t' σ H Q → t σ H Q) : PT X e t' := ⟨fun pins s σ H Q I q => h.run pins s σ H Q I (i σ H Q q)⟩
theorem _root_.L2.PW.imp {X : Cx} {e : Expr} {t t' : TT} (h : PW X e t) (i : ∀ σ H Q, t' σ H Q → t σ H Q) : PW X e t' := ⟨fun wh pins s σ H Q I q => h.run wh pins s σ H Q I (i σ H Q q)⟩
theorem _root_.L2.PA.imp {X : Cx} {e : List Expr} {t t' : TA} (h : PA X e t) (i : ∀ σ H Q, t' σ H Q → t σ H Q) : PA X e t' := ⟨fun pos pins s σ H Q I q => h.run pos pins s σ H Q I (i σ H Q q)⟩
theorem _root_.L2.PS.imp {X : Cx} {e : Stmt} {t t' : TS} (h : PS X e t) (i : ∀ D σ H, t' D σ H → t D σ H) : PS X e t' := ⟨fun pins s σ H D I q => h.run pins s σ H D I (i D σ H q)⟩
theorem _root_.L2.PSs.imp {X : Cx} {e : List Stmt} {t t' : TS} (h : PSs X e t) (i : ∀ D σ H, t' D σ H → t D σ H) : PSs X e t' := ⟨fun pins s σ H D I q => h.run pins s σ H D I (i D σ H q)⟩
theorem _root_.L2.PI.imp {X : Cx} {tg e : Expr} {t t' : TI} (h : PI X tg e t) (i : ∀ σ H Q, t' σ H Q → t σ H Q) : PI X tg e t' := ⟨fun pins s σ H Q I q => h.run pins s σ H Q I (i σ H Q q)⟩
section
variable {X : Cx} {W : WZ} {O : List Nat} {e : Expr} {f : EF} {k : Kd}
end

/-! ### names, constants -/
def eVar (i : Nat) : EF := fun ρ S => match ρ[i]? with
  | some (some d) => .ok d S
  | _ => .stuck
def eC (d : D) : EF := fun _ S => .ok d S
section
variable {X : Cx} {W : WZ} {O : List Nat}
end

/-! ### things seen -/
def deref (S : Sto) (d : D) : D := match d with
  | .obj n => (match S[n]? with
    | some (.lst ds) => .lst ds
    | some (.dct kvs) => .dct kvs
    | some (.dtt kvs) => .dtt kvs
    | some (.ins c fs) => .ins c fs
    | none => .obj n)
  | d => d
/-! ### operators on one, two things; calls -/
def e1 (g : D → Option D) (fa : EF) : EF := fun ρ S => (fa ρ S).bind fun x S1 => .ofOpt (g (deref S1 x)) S1
def e2 (g : D → D → Option D) (fa fb : EF) : EF := fun ρ S => (fa ρ S).bind fun x S1 => (fb ρ S1).bind fun y S2 => .ofOpt (g (deref S2 x) (deref S2 y)) S2
section
variable {X : Cx} {W : WZ} {O : List Nat} {a b : Expr} {fa fb : EF} {k ka kb : Kd}
end

/-! ### argument lists -/
inductive Ress where
  | ok (ds : List D) (S : Sto) | exn (x : D) (S : Sto) | stuck
def Ress.bind (r : Ress) (f : List D → Sto → Res) : Res := match r with
  | .ok d S => f d S
  | .exn x S => .exn x S
  | .stuck => .stuck
abbrev AF := DEnv → Sto → Ress
def aNil : AF := fun _ S => .ok [] S
def aCons (f : EF) (g : AF) : AF := fun ρ S => match f ρ S with
  | .ok d S1 => (match g ρ S1 with
    | .ok ds S2 => .ok (d :: ds) S2
    | .exn x S2 => .exn x S2
    | .stuck => .stuck)
  | .exn x S1 => .exn x S1
  | .stuck => .stuck
section
variable {X : Cx} {W : WZ} {O : List Nat} {e : Expr} {es : List Expr} {f : EF} {g : AF} {k : Kd}
end
def eN (g : List D → Option D) (f : AF) : EF := fun ρ S => (f ρ S).bind fun ds S1 => .ofOpt (g (ds.map (deref S1))) S1
section
variable {X : Cx} {W : WZ} {O : List Nat} {e : Expr} {es : List Expr} {f : EF} {fa : AF} {k : Kd}
end
end DL

/-! tests, statements, loops, comprehensions, defs -/
namespace DL
open PySem PySem.Spec PyProof.Rows L2

/-! ### tests -/
section
variable {K : PySem.W.Frag} {k : Kd} {w w1 : Wit} {H H1 : Hp} {W : WZ} {σ : L2.St} {r : Res} {Q : Bool → Hp → Prop}
end
def eAnd (fa fb : EF) : EF := fun ρ S => (fa ρ S).bind fun x S1 => match x with
  | .bl true => fb ρ S1
  | .bl false => .ok (.bl false) S1
  | _ => .stuck
def eOr (fa fb : EF) : EF := fun ρ S => (fa ρ S).bind fun x S1 => match x with
  | .bl true => .ok (.bl true) S1
  | .bl false => fb ρ S1
  | _ => .stuck
def notF : D → Option D
  | .bl b => some (.bl !b)
  | _ => none
def eNot (fa : EF) : EF := fun ρ S => (fa ρ S).bind fun x S1 => .ofOpt (notF x) S1
def eIf (fc fa fb : EF) : EF := fun ρ S => (fc ρ S).bind fun x S1 => match x with
  | .bl true => fa ρ S1
  | .bl false => fb ρ S1
  | _ => .stuck
section
variable {X : Cx} {W : WZ} {O : List Nat} {a b : Expr} {rest : List Expr} {fa fb fc : EF} {k ka kb : Kd} {pos : Pos}
/-- x is None -/
def isNonF : D → Option D
  | .non => some (.bl true)
  | _ => some (.bl false)
def notNonF : D → Option D
  | .non => some (.bl false)
  | _ => some (.bl true)
def eIsN (fa : EF) : EF := fun ρ S => (fa ρ S).bind fun x S1 => .ofOpt (isNonF x) S1
def eNotN (fa : EF) : EF := fun ρ S => (fa ρ S).bind fun x S1 => .ofOpt (notNonF x) S1
/-- a op b op' c -/
def eChain (g g' : D → D → Option D) (fa fb fc : EF) : EF := fun ρ S => (fa ρ S).bind fun x S1 => (fb ρ S1).bind fun y S2 => (Res.ofOpt (g (deref S2 x) (deref S2 y)) S2).bind fun t S3 => match t with
  | .bl true => (fc ρ S3).bind fun z S4 => .ofOpt (g' (deref S4 y) (deref S4 z)) S4
  | .bl false => .ok (.bl false) S3
  | _ => .stuck
end

/-! ### statements -/
theorem R.known {K : PySem.W.Frag} {Z : Option XC} {ent : Ent Z} {O : List Nat} {w : Wit} {H : Hp} {σ : L2.St} {ρ : DEnv} {S : Sto} (r : R K ent O w H σ ρ S) : R K (⟨ent.w, ent.H, w⟩ : Ent Z) O w H σ ρ S := ⟨r.gd, r.ext, .refl _, r.val, r.own, r.dis, r.len, r.exc, r.thk⟩
structure Lp where
  ct : List Nat
  bk : List Nat
def sNext : SF := fun ρ S => .nx ρ S
def sSeq (f g : SF) : SF := fun ρ S => match f ρ S with
  | .nx ρ1 S1 => g ρ1 S1
  | r => r
section
variable {X : Cx} {W : WZ} {L : Lp} {O O1 O2 O' : List Nat} {st : Stmt} {rest : List Stmt} {f g : SF}
/-- code that is not reached -/
def sNever : SF := fun _ _ => .stuck
end
/-- what comes of an expression's value -/
def sBind (r : Res) (ρ : DEnv) (k : D → Sto → SRes) : SRes := match r with
  | .ok d S => k d S
  | .exn x S => .exn x ρ S
  | .stuck => .stuck
def sRet (f : EF) : SF := fun ρ S => sBind (f ρ S) ρ fun d S1 => .rt d S1
def sExpr (f : EF) : SF := fun ρ S => sBind (f ρ S) ρ fun _ S1 => .nx ρ S1
def sSet (i : Nat) (f : EF) : SF := fun ρ S => sBind (f ρ S) ρ fun d S1 => .nx (ρ.set i (some d)) S1
def sIf (c : EF) (f g : SF) : SF := fun ρ S => sBind (c ρ S) ρ fun d S1 => match d with
  | .bl true => f ρ S1
  | .bl false => g ρ S1
  | _ => .stuck
section
variable {X : Cx} {W : WZ} {L : Lp} {O O1 O2 O' : List Nat} {e c : Expr} {fe fc : EF} {f g : SF} {pos : Pos} {k : Kd}
end

/-! ### targets -/
abbrev GF := D → DEnv → Option DEnv
def gtName (i : Nat) : GF := fun d ρ => some (ρ.set i (some d))
def gtNil : List D → DEnv → Option DEnv := fun ds ρ => match ds with
  | [] => some ρ
  | _ => none
def gtCons (f : GF) (g : List D → DEnv → Option DEnv) : List D → DEnv → Option DEnv := fun ds ρ => match ds with
  | d :: r => (f d ρ).bind fun ρ' => g r ρ'
  | [] => none
def gtTup (g : List D → DEnv → Option DEnv) : GF := fun d ρ => match d with
  | .tup ds => g ds ρ
  | _ => none
/-- target = value, the target a tuple of names -/
def sUnp (g : GF) (f : EF) : SF := fun ρ S => sBind (f ρ S) ρ fun d S1 => match g d ρ with
  | some ρ' => .nx ρ' S1
  | none => .stuck
/-! ### loops -/
abbrev IF := DEnv → Sto → Ress
def forD (g : GF) (body : SF) : List D → DEnv → Sto → SRes
  | [], ρ, S => .nx ρ S
  | x :: xs, ρ, S => match g x ρ with
    | none => .stuck
    | some ρ1 => match body ρ1 S with
      | .nx ρ2 S2 => forD g body xs ρ2 S2
      | .ct ρ2 S2 => forD g body xs ρ2 S2
      | .bk ρ2 S2 => .nx ρ2 S2
      | r => r
def sFor (fi : IF) (g : GF) (body : SF) : SF := fun ρ S => match fi ρ S with
  | .ok ds S1 => forD g body ds ρ S1
  | .exn x S1 => .exn x ρ S1
  | .stuck => .stuck
end DL

/-! what is walked; comprehensions; while; defs and their calls -/
namespace DL
open PySem PySem.Spec PyProof.Rows L2

/-- the list is long enough for nobody -/
def LIM : Nat := 1000000
/-! ### what is walked -/
def iSeq (f : EF) : IF := fun ρ S => match f ρ S with
  | .ok d S1 => (match d with
    | .lst ds => .ok ds S1
    | .tup ds => .ok ds S1
    | .ctp ds => .ok ds S1
    | _ => .stuck)
  | .exn x S1 => .exn x S1
  | .stuck => .stuck
section
variable {K : PySem.W.Frag} {w : Wit} {a : Addr} {vs : List V} {ds : List D}
end
section
variable {X : Cx} {W : WZ} {O : List Nat} {tg e e' : Expr} {es : List Expr} {f : EF} {fa : AF} {k : Kd}
theorem _root_.L2.PI.or {X : Cx} {tg e : Expr} {t t' : TI} (h : PI X tg e t) (h' : PI X tg e t') : PI X tg e (fun σ H R => t σ H R ∨ t' σ H R) :=
  ⟨fun pins s σ H R I q => q.elim (h.run pins s σ H R I) (h'.run pins s σ H R I)⟩
def dInts (lo : Int) (n : Nat) : List D := (List.range n).map fun (k : Nat) => D.int (lo + k)
def iRange1 (f : AF) : IF := fun ρ S => match f ρ S with
  | .ok [.int n] S1 => if n.toNat < LIM ∧ -(2 ^ 62) ≤ n then .ok (dInts 0 n.toNat) S1 else .stuck
  | .ok _ _ => .stuck
  | .exn x S1 => .exn x S1
  | .stuck => .stuck
end

/-! ### comprehensions -/
def wipeD (ρ : DEnv) : List Nat → DEnv
  | [] => ρ
  | v :: vs => (wipeD ρ vs).set v none
def lcD (g : GF) (fc fe : EF) : List D → List D → DEnv → Sto → Res
  | [], acc, _, S => .ok (.lst acc) S
  | x :: xs, acc, ρ, S => match g x ρ with
    | none => .stuck
    | some ρ1 => match fc ρ1 S with
      | .ok (.bl true) S1 => (match fe ρ1 S1 with
        | .ok d S2 => lcD g fc fe xs (acc ++ [d]) ρ S2
        | _ => .stuck)
      | .ok (.bl false) S1 => lcD g fc fe xs acc ρ S1
      | _ => .stuck
def eLc (vs : List Nat) (fi : IF) (g : GF) (fc fe : EF) : EF := fun ρ S => match fi ρ S with
  | .ok ds S1 => lcD g fc fe ds [] (wipeD ρ vs) S1
  | .exn x S1 => .exn x S1
  | .stuck => .stuck
def eYes : EF := fun _ S => .ok (.bl true) S
section
variable {K : PySem.W.Frag} {Z : Option XC} {ent : Ent Z} {O : List Nat} {w w' : Wit} {H H' : Hp} {σ : L2.St} {ρ : DEnv} {S S' : Sto}
end
section
variable {X : Cx} {W : WZ} {O : List Nat} {elt tg iter : Expr} {ifs : List Expr} {scope : Scope} {own : List (Str × Nat)} {pos : Pos} {fi : IF} {g : GF} {t : TG} {fc fe : EF}
end
section
variable {X : Cx} {W : WZ} {O : List Nat} {elt tg iter : Expr} {ifs : List Expr} {scope : Scope} {own : List (Str × Nat)} {pos : Pos} {fi : IF} {g : GF} {t : TG} {fc fe : EF}
end

/-! ### two clauses -/
def lcDs (g : GF) (fc fe : EF) : List D → List D → DEnv → Sto → Res
  | [], acc, _, S => .ok (.lst acc) S
  | x :: xs, acc, ρ, S => match g x ρ with
    | none => .stuck
    | some ρ1 => match fc ρ1 S with
      | .ok (.bl true) S1 => (match fe ρ1 S1 with
        | .ok d S2 => if acc.length < LIM then lcDs g fc fe xs (acc ++ [d]) ρ S2 else .stuck
        | _ => .stuck)
      | .ok (.bl false) S1 => lcDs g fc fe xs acc ρ S1
      | _ => .stuck
def lcD2 (g : GF) (fc : EF) (fi1 : IF) (vs1 : List Nat) (g1 : GF) (fc1 fe : EF) : List D → List D → DEnv → Sto → Res
  | [], acc, _, S => .ok (.lst acc) S
  | x :: xs, acc, ρ, S => match g x ρ with
    | none => .stuck
    | some ρ1 => match fc ρ1 S with
      | .ok (.bl true) S1 => (match fi1 ρ1 S1 with
        | .ok ds S2 => (match lcDs g1 fc1 fe ds acc (wipeD ρ1 vs1) S2 with
          | .ok (.lst acc') S3 => lcD2 g fc fi1 vs1 g1 fc1 fe xs acc' ρ S3
          | _ => .stuck)
        | _ => .stuck)
      | .ok (.bl false) S1 => lcD2 g fc fi1 vs1 g1 fc1 fe xs acc ρ S1
      | _ => .stuck
def eLc2 (vs vs1 : List Nat) (fi : IF) (g : GF) (fc : EF) (fi1 : IF) (g1 : GF) (fc1 fe : EF) : EF := fun ρ S => match fi ρ S with
  | .ok ds S1 => lcD2 g fc fi1 vs1 g1 fc1 fe ds [] (wipeD ρ vs) S1
  | .exn x S1 => .exn x S1
  | .stuck => .stuck
end DL

/-! while; defs and calls; own lists and dicts changed -/
namespace DL
open PySem PySem.Spec PyProof.Rows L2

/-! ### while -/
section
variable {X : Cx} {W : WZ} {L : Lp} {O : List Nat} {c : Expr} {body : List Stmt} {fc : EF} {fb : SF} {pos : Pos}
end

/-! ### defs -/
def fnD (n : Nat) (fb : SF) : FF := fun ds S => match fb (ds.map some ++ List.replicate (n - ds.length) none) S with
  | .rt d S1 => .ok d S1
  | .nx _ S1 => .ok .non S1
  | .exn x _ S1 => .exn x S1
  | _ => .stuck
section
variable {P : Program} {w : World} {K : PySem.W.Frag} {mg : Str → Option Value} {base : Heap} {x qual : Str} {params : Arguments} {body : List Stmt} {scope : Scope} {dvs : List V} {kws : List (Str × V)} {f : Addr} {fd : FuncData}
end
def eCall (ff : FF) (fa : AF) : EF := fun ρ S => (fa ρ S).bind fun ds S1 => ff ds S1
section
variable {X : Cx} {W : WZ} {O : List Nat} {k : Nat} {f : Addr} {fd : FuncData} {ps : List Str} {ff : FF} {x : Str} {p pos : Pos} {e : Expr} {es : List Expr} {fa : AF}
end
end DL

/-! operators on data -/
namespace DL
open PySem PySem.Spec PyProof.Rows L2

/-! ### plain data -/
mutual
def toPy : D → PyData
  | .bl b => .bool b
  | .int i => .int i
  | .str x => .str x
  | .tup ds => .tuple (toPys ds)
  | .ctp ds => .tuple (toPys ds)
  | .lst ds => .list (toPys ds)
  | _ => .none
def toPys : List D → List PyData
  | [] => []
  | d :: ds => toPy d :: toPys ds
end
mutual
def plD : D → Bool
  | .non => true
  | .bl _ => true
  | .int _ => true
  | .str _ => true
  | .tup ds => plDs ds
  | .ctp ds => plDs ds
  | .lst ds => plDs ds
  | _ => false
def plDs : List D → Bool
  | [] => true
  | d :: ds => plD d && plDs ds
end
theorem plDs_all : ∀ ds : List D, plDs ds = ds.all plD
  | [] => by simp [plDs]
  | d :: ds => by simp [plDs, plDs_all ds]
/-- == -/
def eqD (x y : D) : Bool := PyData.eqv (toPy x) (toPy y)
/-- fit to be compared at any depth -/
def shD (d : D) : Bool := plD d && SeqAt.shaped (toPy d)
def flatD : D → Bool
  | .non => true
  | .bl _ => true
  | .int _ => true
  | .str _ => true
  | _ => false
def scalD : D → D → Bool
  | .non, .non => true | .non, .int _ => true | .int _, .non => true | .non, .bl _ => true | .bl _, .non => true | .non, .str _ => true | .str _, .non => true
  | .int _, .int _ => true | .bl _, .bl _ => true | .str _, .str _ => true
  | .int _, .str _ => true | .str _, .int _ => true | .bl _, .str _ => true | .str _, .bl _ => true
  | _, _ => false
def eqF (x y : D) : Option D := if scalD x y = true ∨ (shD x = true ∧ shD y = true) then some (.bl (eqD x y)) else none
def neF (x y : D) : Option D := if scalD x y = true ∨ (shD x = true ∧ shD y = true) then some (.bl (!eqD x y)) else none
section
variable {X : Cx}
end

/-! ### order -/
def iLt (f : Int → Int → Bool) : D → D → Option D
  | .int i, .int j => some (.bl (f i j))
  | _, _ => none
section
variable {X : Cx}
end

/-! ### arithmetic -/
def addF : D → D → Option D
  | .int i, .int j => some (.int (i + j))
  | .str a, .str b => if a.length + b.length < LIM then some (.str (a ++ b)) else none
  | .tup a, .tup b => if a.length + b.length < LIM then some (.tup (a ++ b)) else none
  | .lst a, .lst b => if a.length + b.length < LIM then some (.lst (a ++ b)) else none
  | _, _ => none
def subF : D → D → Option D
  | .int i, .int j => some (.int (i - j))
  | _, _ => none
section
variable {X : Cx}
end
end DL

/-! subscripts, slices, in -/
namespace DL
open PySem PySem.Spec PyProof.Rows L2

theorem _root_.L2.PE.or {X : Cx} {e : Expr} {t t' : TE} (h : PE X e t) (h' : PE X e t') : PE X e (fun σ H Q => t σ H Q ∨ t' σ H Q) :=
  ⟨fun pins s σ H Q I q => q.elim (h.run pins s σ H Q I) (h'.run pins s σ H Q I)⟩

/-! ### keys -/
def kOf : D → Option L2.Key
  | .int i => some (.inl i)
  | .str x => some (.inr x)
  | _ => none
theorem kOf_kD (k : L2.Key) : kOf (kD k) = some k := by cases k <;> rfl
def ksOf : List D → Option (List L2.Key)
  | [] => some []
  | d :: ds => match kOf d, ksOf ds with
    | some k, some ks => some (k :: ks)
    | _, _ => none
theorem ksOf_kD : ∀ ks : List L2.Key, ksOf (ks.map kD) = some ks
  | [] => rfl
  | k :: ks => by simp only [List.map_cons, ksOf, kOf_kD, ksOf_kD ks]
def tOf : D → Option (List L2.Key)
  | .tup ds => ksOf ds
  | _ => none
def getK (kvs : List (D × D)) (k : L2.Key) : Option D := (kvs.find? fun kv => decide (kOf kv.1 = some k)).map (·.2)
def getT (kvs : List (D × D)) (k : List L2.Key) : Option D := (kvs.find? fun kv => decide (tOf kv.1 = some k)).map (·.2)
/-- d at y, if there -/
def lookF : D → D → Option (Option D)
  | .dct kvs, y => (kOf y).map (getK kvs)
  | .dtt kvs, y => (tOf y).map (getT kvs)
  | _, _ => none
/-! ### x[i] -/
def ixS : D → D → Option D
  | .lst ds, .int i => atI ds i
  | .tup ds, .int i => atI ds i
  | .ctp ds, .int i => atI ds i
  | .str z, .int i => if z.length < LIM then (atI z.cps.toList i).map fun c => .str ⟨#[c]⟩ else none
  | _, _ => none
def ixD (x y : D) : Option D := (lookF x y).bind id
def ixF (x y : D) : Option D := match x with
  | .dct _ => ixD x y
  | .dtt _ => ixD x y
  | _ => ixS x y
theorem Reps.atI {K : PySem.W.Frag} {w : Wit} {ds : List D} {vs : List V} (h : Reps K w ds vs) {i : Int} {d : D} (e : L2.atI ds i = some d) : ∃ v, L2.atI vs i = some v ∧ Rep K w d v := by
  unfold L2.atI at *
  rw [← h.length]
  cases e1 : ixN ds.length i with
  | none => rw [e1] at e; cases e
  | some j => rw [e1] at e; exact h.get e
section
variable {X : Cx} {W : WZ} {O : List Nat} {a b : Expr} {fa fb : EF} {k ka kb : Kd} {pos : Pos}
end

/-! ### slices -/
def optI : D → Option (Option Int)
  | .non => some none
  | .int i => some (some i)
  | _ => none
theorem _root_.L2.PO.imp {X : Cx} {e : Option Expr} {t t' : TO} (h : PO X e t) (i : ∀ σ H Q, t' σ H Q → t σ H Q) : PO X e t' := ⟨fun pins s σ H Q I q => h.run pins s σ H Q I (i σ H Q q)⟩
def ptF : D → Option D
  | .int i => some (.int i)
  | _ => none
def wholeD (n : Nat) (lo hi : Option Int) : Bool := decide (HT.sIx n 0 lo = 0) && decide (HT.sIx n n hi = n)
def cutD (ds : List D) (lo hi : Option Int) : List D := (ds.drop (HT.sIx ds.length 0 lo)).take (HT.sIx ds.length ds.length hi - HT.sIx ds.length 0 lo)
def slF (x : D) (lo hi : Option Int) : Option D := match x with
  | .lst ds => some (.lst (cutD ds lo hi))
  | .tup ds => some (.tup (cutD ds lo hi))
  | .ctp ds => if wholeD ds.length lo hi then some (.ctp ds) else some (.tup (cutD ds lo hi))
  | .str z => if z.length < LIM then some (.str (cutS z lo hi)) else none
  | _ => none
def eSl (g : D → Option Int → Option Int → Option D) (fa fl fh : EF) : EF := fun ρ S => (fa ρ S).bind fun x S1 => (fl ρ S1).bind fun l S2 => match optI l with
  | none => .stuck
  | some lo => (fh ρ S2).bind fun h S3 => match optI h with
    | none => .stuck
    | some hi => .ofOpt (g (deref S3 x) lo hi) S3
section
variable {X : Cx} {W : WZ} {O : List Nat} {e : Expr} {lo hi : Option Expr} {fa fl fh : EF} {k ka : Kd} {pos p2 : Pos} {g : D → Option Int → Option Int → Option D}
end

/-! ### in -/
def inSq (x : D) (ds : List D) : Option Bool :=
  if (flatD x && ds.all flatD) = true ∨ (shD x && shD (.lst ds)) = true then some (ds.any fun y => eqD y x) else none
/-- a key of the dict that tells True -/
def nOf : D → Option (Option Int)
  | .non => some none
  | .int i => some (some i)
  | _ => none
section
variable {X : Cx} {pins : List (Addr × Obj)} {σ : L2.St} {H : Hp} {s : Shared} {a : Addr} {ks : List (Option Int)} {k : Option Int} {u : Value} {A : Around} {E : Value → Shared → Prop} {Q : Value → Shared → Prop}
end
def inB (x y : D) : Option Bool := match y with
  | .lst ds => inSq x ds
  | .tup ds => inSq x ds
  | .ctp ds => inSq x ds
  | .dct kvs => (lookF (.dct kvs) x).map (·.isSome)
  | .dtt kvs => (lookF (.dtt kvs) x).map (·.isSome)
  | .dno ks => (nOf x).map fun k => decide (k ∈ ks)
  | _ => none
def inF (x y : D) : Option D := (inB x y).map .bl
def notInF (x y : D) : Option D := (inB x y).map fun b => .bl (!b)
section
variable {X : Cx}
end
end DL

/-! calls of what is built in -/
namespace L2
open PySem PySem.Spec PyProof.Rows
end L2
namespace DL
open PySem PySem.Spec PyProof.Rows L2

def f1 (g : D → Option D) : List D → Option D
  | [d] => g d
  | _ => none
section
variable {X : Cx}
/-! ### len -/
def lenF : D → Option D
  | .lst ds => some (.int ds.length)
  | .tup ds => some (.int ds.length)
  | .ctp ds => some (.int ds.length)
  | .dct ds => some (.int ds.length)
  | .dtt ds => some (.int ds.length)
  | .str z => if z.length < LIM then some (.int z.length) else none
  | _ => none
theorem RepK.length {K : PySem.W.Frag} {w : Wit} {ds : List (D × D)} {vs : List (L2.Key × V)} (h : RepK K w ds vs) : ds.length = vs.length := by
  induction ds generalizing vs with
  | nil => cases h; rfl
  | cons d ds ih => cases h with | cons h t => simp [ih t]
theorem RepT.length {K : PySem.W.Frag} {w : Wit} {ds : List (D × D)} {vs : List (List L2.Key × V)} (h : RepT K w ds vs) : ds.length = vs.length := by
  induction ds generalizing vs with
  | nil => cases h; rfl
  | cons d ds ih => cases h with | cons h t => simp [ih t]
/-! ### tuple(..), list(..) -/
def tupF : D → Option D
  | .lst ds => some (.tup ds)
  | .tup ds => some (.tup ds)
  | .ctp ds => some (.ctp ds)
  | _ => none
def lstF : D → Option D
  | .lst ds => some (.lst ds)
  | .tup ds => some (.lst ds)
  | .ctp ds => some (.lst ds)
  | .dct kvs => some (.lst (kvs.map (·.1)))
  | _ => none
theorem rep_key {K : PySem.W.Frag} {w : Wit} (k : L2.Key) : Rep K w (kD k) (kV k) := by cases k with
  | inl i => exact .int i
  | inr x => exact .str x
theorem RepK.keys {K : PySem.W.Frag} {w w' : Wit} {ds : List (D × D)} {vs : List (L2.Key × V)} (h : RepK K w ds vs) : Reps K w' (ds.map (·.1)) (vs.map fun kv => kV kv.1) := by
  induction ds generalizing vs with
  | nil => cases h; exact .nil
  | cons d ds ih => cases h with | cons h t => exact .cons (rep_key _) (ih t)
/-! ### int(..), sum, all, any, min, max -/
def blsOf : List D → Option (List Bool)
  | [] => some []
  | .bl i :: ds => (blsOf ds).map (i :: ·)
  | _ :: _ => none
def allF : D → Option D
  | .lst ds => (blsOf ds).map fun ns => .bl (ns.all id)
  | _ => none
end
end DL

/-! sorted, isinstance, displays -/
namespace DL
open PySem PySem.Spec PyProof.Rows L2

/-! ### sorted -/
def sortD (ds : List D) : List D := ds.mergeSort (PySem.W.dataLe false toPy)
def tupNe : D → Bool
  | .tup (_ :: _) => true
  | .ctp (_ :: _) => true
  | _ => false
def scalS : D → Bool
  | .int _ => true
  | .str _ => true
  | .bl _ => true
  | .lst _ => true
  | _ => false
def sortOk (ds : List D) : Bool := plDs ds && ds.all (fun x => ds.all fun y => PySem.W.alike (toPy x) (toPy y)) && (ds.all tupNe || ds.all scalS) && ds.all (fun d => decide ((toPy d).depth ≤ 60)) && decide (ds.length < LIM)
def sortF : D → Option D
  | .lst ds => if sortOk ds = true then some (.lst (sortD ds)) else none
  | _ => none
section
variable {X : Cx}
end

/-! ### isinstance -/
def tyB : D → Option String
  | .non => some "NoneType"
  | .bl _ => some "bool"
  | .int _ => some "int"
  | .str _ => some "str"
  | .tup _ => some "tuple"
  | .ctp _ => some "tuple"
  | .lst _ => some "list"
  | .dct _ => some "dict"
  | .dtt _ => some "dict"
  | _ => none
def baseTys : List String := ["NoneType", "bool", "int", "str", "tuple", "list", "dict"]
def isF (tb : String → Bool) (to : Str → Option Bool) (d : D) : Option D := match d with
  | .ins c _ => (to c).map .bl
  | d => (tyB d).map fun t => .bl (tb t)
section
variable {X : Cx} {W : WZ} {O : List Nat} {a T : Expr} {fa : EF} {k : Kd} {p pos : Pos} {c : V} {u : Value} {tb : String → Bool} {to : Str → Option Bool}
end

/-! ### displays -/
def eTup (f : AF) : EF := fun ρ S => match f ρ S with
  | .ok ds S1 => if ds.length < LIM then .ok (.tup ds) S1 else .stuck
  | .exn x S1 => .exn x S1
  | .stuck => .stuck
def eLst (f : AF) : EF := fun ρ S => match f ρ S with
  | .ok ds S1 => if ds.length < LIM then .ok (.lst ds) S1 else .stuck
  | .exn x S1 => .exn x S1
  | .stuck => .stuck
section
variable {X : Cx} {W : WZ} {O : List Nat} {es : List Expr} {e : Expr} {fa : AF} {f : EF} {k : Kd} {pos p : Pos} {j : Nat}
/-- *e, .. -/
def itemsD : D → Option (List D)
  | .lst ds => some ds
  | .tup ds => some ds
  | .ctp ds => some ds
  | _ => none
def aStar (f : EF) (g : AF) : AF := fun ρ S => match f ρ S with
  | .ok d S1 => (match itemsD (deref S1 d) with
    | some xs => (match g ρ S1 with
      | .ok ds S2 => .ok (xs ++ ds) S2
      | .exn x S2 => .exn x S2
      | .stuck => .stuck)
    | none => .stuck)
  | .exn x S1 => .exn x S1
  | .stuck => .stuck
end
end DL

/-! enumerate, zip, texts walked -/
namespace DL
open PySem PySem.Spec PyProof.Rows L2

/-! ### enumerate of a tuple -/
end DL
namespace PySem
open Sem (wp)
open AutoSeq1 (wpAny_loadPart')
section
variable {prog : Program} {w : World} {A : Around} {E : Value → Shared → Prop} {s : Shared}
end
end PySem
namespace DL
open PySem PySem.Spec PyProof.Rows L2
end DL
namespace DL
open PySem PySem.Spec PyProof.Rows L2
def enD : Nat → List D → List D
  | _, [] => []
  | k, d :: ds => .tup [.int (k : Int), d] :: enD (k + 1) ds
section
variable {K : PySem.W.Frag} {w : Wit} {a b : Addr} {vs us : List V} {ds es : List D}
def zipD : List D → List D → List D
  | x :: xs, y :: ys => .tup [x, y] :: zipD xs ys
  | _, _ => []
def chD (x : Str) : List D := x.cps.toList.map fun c => .str ⟨#[c]⟩
end
def iEn (f : AF) : IF := fun ρ S => match f ρ S with
  | .ok [d] S1 => (match itemsD d with
    | some ds => if ds.length < LIM then .ok (enD 0 ds) S1 else .stuck
    | none => .stuck)
  | .ok _ _ => .stuck
  | .exn x S1 => .exn x S1
  | .stuck => .stuck
def iZip (f : AF) : IF := fun ρ S => match f ρ S with
  | .ok [.lst a, .lst b] S1 => if a.length < LIM then .ok (zipD a b) S1 else .stuck
  | .ok [.tup a, .tup b] S1 => if a.length < LIM then .ok (zipD a b) S1 else .stuck
  | .ok _ _ => .stuck
  | .exn x S1 => .exn x S1
  | .stuck => .stuck
def iStr (f : EF) : IF := fun ρ S => match f ρ S with
  | .ok (.str x) S1 => if x.length < LIM then .ok (chD x) S1 else .stuck
  | .ok _ _ => .stuck
  | .exn x S1 => .exn x S1
  | .stuck => .stuck
section
variable {X : Cx} {W : WZ} {O : List Nat} {tg e e' : Expr} {es : List Expr} {f : EF} {fa : AF} {k : Kd} {elts : List Expr} {kk : Nat} {p pos tpos : Pos}
end
end DL

/-! several names at once; what is changed in place -/
namespace DL
open PySem PySem.Spec PyProof.Rows L2

/-! ### expressions of several kinds -/
section
variable {X : Cx} {W : WZ} {O : List Nat} {e : Expr} {es : List Expr} {f : EF} {g : AF} {ks : List Kd}
end
/-- names set one behind the other -/
def putD' : DEnv → List Nat → List D → DEnv
  | ρ, i :: is, d :: ds => putD' (ρ.set i (some d)) is ds
  | ρ, _, _ => ρ
def sPar (is : List Nat) (f : AF) : SF := fun ρ S => match f ρ S with
  | .ok ds S1 => .nx (putD' ρ is ds) S1
  | .exn x S1 => .exn x ρ S1
  | .stuck => .stuck
section
variable {X : Cx} {W : WZ} {L : Lp} {O : List Nat} {a b c : Expr} {f : AF} {ks : List Kd} {x y z : Str} {px py pz pt pos : Pos} {kt k2 : Nat} {pt2 : Pos}
end

/-! ### own lists, own dicts -/
def putKD (kvs : List (D × D)) (t : D → Bool) (k v : D) : List (D × D) := if kvs.any (fun kv => t kv.1) then kvs.map (fun kv => if t kv.1 then (kv.1, v) else kv) else kvs ++ [(k, v)]
/-- a key more -/
def putN (ks : List (Option Int)) (k : Option Int) : List (Option Int) := if k ∈ ks then ks else ks ++ [k]
def setF (d k v : D) : Option D := match d with
  | .dct kvs => match kOf k with
    | some kk => if kvs.length < LIM then some (.dct (putKD kvs (fun x => decide (kOf x = some kk)) k v)) else none
    | none => none
  | .dtt kvs => match tOf k with
    | some kk => if kvs.length < LIM then some (.dtt (putKD kvs (fun x => decide (tOf x = some kk)) k v)) else none
    | none => none
  | .lst ds => match k with
    | .int i => (ixN ds.length i).map fun j => .lst (ds.set j v)
    | _ => none
  | .dno ks => match v with
    | .bl true => match nOf k with
      | some kk => if ks.length < LIM then some (.dno (putN ks kk)) else none
      | none => none
    | _ => none
  | _ => none
section
variable {K : PySem.W.Frag} {w : Wit} {d : D} {v : V} {t : D → Bool}
theorem RepK.any {k : L2.Key} (ht : ∀ kk, t (kD kk) = decide (kk = k)) : ∀ {ds : List (D × D)} {vs : List (L2.Key × V)}, RepK K w ds vs → (ds.any fun kv => t kv.1) = vs.any fun kv => decide (kv.1 = k)
  | _, _, .nil => rfl
  | _, _, .cons h r => by simp only [List.any_cons, ht, RepK.any ht r]
theorem RepK.upd {k : L2.Key} (ht : ∀ kk, t (kD kk) = decide (kk = k)) (rv : Rep K w d v) : ∀ {ds : List (D × D)} {vs : List (L2.Key × V)}, RepK K w ds vs → RepK K w (ds.map fun kv => if t kv.1 then (kv.1, d) else kv) (vs.map fun kv => if kv.1 = k then (kv.1, v) else kv)
  | _, _, .nil => .nil
  | _, _, @RepK.cons _ _ k' d' v' ds vs h r => by
    simp only [List.map_cons, ht, decide_eq_true_eq]
    by_cases e : k' = k
    · rw [if_pos e, if_pos e]; exact .cons rv (RepK.upd ht rv r)
    · rw [if_neg e, if_neg e]; exact .cons h (RepK.upd ht rv r)
theorem RepK.snoc {k : L2.Key} (rv : Rep K w d v) : ∀ {ds : List (D × D)} {vs : List (L2.Key × V)}, RepK K w ds vs → RepK K w (ds ++ [(kD k, d)]) (vs ++ [(k, v)])
  | _, _, .nil => .cons rv .nil
  | _, _, .cons h r => .cons h (RepK.snoc rv r)
theorem RepK.put' {k : L2.Key} {ds : List (D × D)} {vs : List (L2.Key × V)} (ht : ∀ kk, t (kD kk) = decide (kk = k)) (h : RepK K w ds vs) (r : Rep K w d v) : RepK K w (putKD ds t (kD k) d) (putK vs k v) := by
  unfold putKD putK
  rw [RepK.any ht h]
  split
  · exact RepK.upd ht r h
  · exact RepK.snoc r h
theorem RepT.any {k : List L2.Key} (ht : ∀ kk : List L2.Key, t (.tup (kk.map kD)) = decide (kk = k)) : ∀ {ds : List (D × D)} {vs : List (List L2.Key × V)}, RepT K w ds vs → (ds.any fun kv => t kv.1) = vs.any fun kv => decide (kv.1 = k)
  | _, _, .nil => rfl
  | _, _, .cons h r => by simp only [List.any_cons, ht, RepT.any ht r]
theorem RepT.upd {k : List L2.Key} (ht : ∀ kk : List L2.Key, t (.tup (kk.map kD)) = decide (kk = k)) (rv : Rep K w d v) : ∀ {ds : List (D × D)} {vs : List (List L2.Key × V)}, RepT K w ds vs → RepT K w (ds.map fun kv => if t kv.1 then (kv.1, d) else kv) (vs.map fun kv => if kv.1 = k then (kv.1, v) else kv)
  | _, _, .nil => .nil
  | _, _, @RepT.cons _ _ k' d' v' ds vs h r => by
    simp only [List.map_cons, ht, decide_eq_true_eq]
    by_cases e : k' = k
    · rw [if_pos e, if_pos e]; exact .cons rv (RepT.upd ht rv r)
    · rw [if_neg e, if_neg e]; exact .cons h (RepT.upd ht rv r)
theorem RepT.snoc {k : List L2.Key} (rv : Rep K w d v) : ∀ {ds : List (D × D)} {vs : List (List L2.Key × V)}, RepT K w ds vs → RepT K w (ds ++ [(.tup (k.map kD), d)]) (vs ++ [(k, v)])
  | _, _, .nil => .cons rv .nil
  | _, _, .cons h r => .cons h (RepT.snoc rv r)
theorem RepK.put {k : L2.Key} {ds : List (D × D)} {vs : List (L2.Key × V)} (h : RepK K w ds vs) (r : Rep K w d v) : RepK K w (putKD ds (fun x => decide (kOf x = some k)) (kD k) d) (putK vs k v) :=
  h.put' (fun kk => by simp [kOf_kD]) r
theorem RepT.put' {k : List L2.Key} {ds : List (D × D)} {vs : List (List L2.Key × V)} (ht : ∀ kk : List L2.Key, t (.tup (kk.map kD)) = decide (kk = k)) (h : RepT K w ds vs) (r : Rep K w d v) : RepT K w (putKD ds t (.tup (k.map kD)) d) (putK vs k v) := by
  unfold putKD putK
  rw [RepT.any ht h]
  split
  · exact RepT.upd ht r h
  · exact RepT.snoc r h
theorem RepT.put {k : List L2.Key} {ds : List (D × D)} {vs : List (List L2.Key × V)} (h : RepT K w ds vs) (r : Rep K w d v) : RepT K w (putKD ds (fun x => decide (tOf x = some k)) (.tup (k.map kD)) d) (putK vs k v) :=
  h.put' (fun kk => by simp [tOf, ksOf_kD]) r
end
section
variable {X : Cx} {W : WZ} {L : Lp} {O : List Nat} {e ek ev : Expr} {fe fk fv : EF} {k kk : Kd} {x : Str} {p pos pos' apos cpos : Pos}
/-- d[k] = v, d a slot's own -/
def sPut (i : Nat) (fk fv : EF) : SF := fun ρ S => sBind (fv ρ S) ρ fun v S1 => match ρ[i]? with
  | some (some d) => sBind (fk ρ S1) ρ fun k S2 => (match setF d (deref S2 k) v with
    | some d' => .nx (ρ.set i (some d')) S2
    | none => .stuck)
  | _ => .stuck
theorem _root_.L2.PS.or {X : Cx} {st : Stmt} {t t' : TS} (h : PS X st t) (h' : PS X st t') : PS X st (fun D σ H => t D σ H ∨ t' D σ H) :=
  ⟨fun pins s σ H D I q => q.elim (h.run pins s σ H D I) (h'.run pins s σ H D I)⟩
/-- xs.append(e), xs a slot's own -/
def sApp (i : Nat) (f : EF) : SF := fun ρ S => match ρ[i]? with
  | some (some (.lst ds)) => sBind (f ρ S) ρ fun d S1 => if ds.length < LIM then .nx (ρ.set i (some (.lst (ds ++ [d])))) S1 else .stuck
  | _ => .stuck
end
end DL

/-! lists of the store changed -/
namespace DL
open PySem PySem.Spec PyProof.Rows L2

section
variable {X : Cx} {W : WZ} {L : Lp} {O : List Nat} {e eo ek ev : Expr} {fe fo fk fv : EF} {k ko kk : Kd} {x : Str} {p pos pos' apos cpos : Pos}
theorem R.sto {K : PySem.W.Frag} {Z : Option XC} {ent : Ent Z} {w : Wit} {H : Hp} {σ : L2.St} {ρ : DEnv} {S : Sto} {O : List Nat} (r : R K ent O w H σ ρ S) {n : Nat} {o o' : SO} {u : HO} (hn : S[n]? = some o) (h : RepO K w (L2.upd H (w.phi n) u) (w.phi n) o') : R K ent O w (L2.upd H (w.phi n) u) σ ρ (S.set n o') := by
  have hm : n < w.m := by rw [r.gd.len]; exact (List.getElem?_eq_some_iff.mp hn).1
  exact r.later (Ext.put w H hm (r.gd.sto n o hn).there h.ntU) (r.gd.put hn h)
end
section
variable {K : PySem.W.Frag} {w : Wit} {H : Hp} {S : Sto} {a : Addr} {o : HO} {so : SO}
def Wit.add (w : Wit) (a : Addr) : Wit := { w with phi := fun n => if n = w.m then a else w.phi n, m := w.m + 1 }
theorem Le.add (w : Wit) (a : Addr) : Le w (w.add a) := ⟨fun _ _ h => h, fun n hn => by simp [Wit.add, Nat.ne_of_lt hn], Nat.le_succ _, rfl⟩
theorem Gd.add (g : Gd K w H S) (h : H a = none) (hr : RepO K w (upd H a o) a so) : Gd K (w.add a) (upd H a o) (S ++ [so]) where
  len := by simp [Wit.add, g.len]
  sub := fun b u e => by
    have : w.F b = some u := e
    have h2 := g.sub b u this
    rw [upd_ne (fun q => by rw [q, h] at h2; cases h2)]; exact h2
  sto := fun n u e => by
    by_cases hn : n < S.length
    · rw [List.getElem?_append_left hn] at e
      have ep : (w.add a).phi n = w.phi n := (Le.add w a).phi n (by rw [g.len]; exact hn)
      rw [ep]
      refine (g.sto n u e).mono (Le.add w a) fun z hz => ?_
      rw [upd_ne (fun q => by rw [q, h] at hz; cases hz)]; exact hz
    · rw [List.getElem?_append_right (by omega)] at e
      have en : n = S.length := by
        by_cases q : n - S.length = 0
        · omega
        · rw [List.getElem?_eq_none (by simp; omega)] at e; cases e
      subst en
      simp at e
      subst e
      have ep : (w.add a).phi S.length = a := by simp [Wit.add, g.len]
      rw [ep]
      exact hr.mono (Le.add w a) fun z hz => hz
  inj := fun i j hi hj e => by
    have hi' : i < w.m + 1 := hi
    have hj' : j < w.m + 1 := hj
    have np : ∀ n, n < w.m → w.phi n ≠ a := g.nophi h
    simp only [Wit.add] at e
    by_cases q : i = w.m <;> by_cases q' : j = w.m
    · omega
    · rw [if_pos q, if_neg q'] at e; exact absurd e.symm (np j (by omega))
    · rw [if_neg q, if_pos q'] at e; exact absurd e (np i (by omega))
    · rw [if_neg q, if_neg q'] at e; exact g.inj i j (by omega) (by omega) e
  nofz := fun i hi => by
    have hi' : i < w.m + 1 := hi
    show w.F ((w.add a).phi i) = none
    simp only [Wit.add]
    by_cases q : i = w.m
    · rw [if_pos q]; exact g.noneF h
    · rw [if_neg q]; exact g.nofz i (by omega)
  tab := g.tab.to rfl g.tab.f fun b u e _ => by rw [upd_ne (fun q => by rw [q, h] at e; cases e)]; exact e
theorem Ext.add (g : Gd K w H S) (h : H a = none) : Ext w H (w.add a) (upd H a o) where
  le := Le.add w a
  new := fun n h1 h2 => by
    have h2' : n < w.m + 1 := h2
    have : n = w.m := by omega
    subst this
    exact .inl (by simp [Wit.add, h])
  keep := fun b u e => .inr (by rw [upd_ne (fun q => by rw [q, h] at e; cases e)]; exact e)
  there := fun b hb => by
    by_cases q : b = a
    · subst q; exact .inl h
    · rw [upd_ne q] at hb; exact hb
  fz := fun b hb hF => ⟨hF, by rw [upd_ne (fun q => hb.ne (by rw [q]; exact h))]; exact hb⟩
end
section
variable {X : Cx} {W : WZ} {L : Lp} {O : List Nat} {es : List Expr} {fa : AF} {x : Str} {pos pos' lpos : Pos}
end
end DL

/-! defs known by name; constants of the module; more operators -/
namespace L2
open PySem PySem.Spec PyProof.Rows
end L2
namespace DL
open PySem PySem.Spec PyProof.Rows L2

section
variable {X : Cx} {W : WZ} {O : List Nat} {k : Nat} {ps : List Str} {ff : FF} {x : Str} {p pos : Pos} {e a b : Expr} {es : List Expr} {fa : AF} {f g : EF} {ka kb : Kd}
/-- one sign in a text -/
def signF (x y : D) : Option D := match x, y with
  | .str a, .str z => (match a.cps.toList with
    | [c] => some (.bl (decide (c ∈ z.cps.toList)))
    | _ => none)
  | _, _ => none
/-- {} -/
def eNewK : EF := fun _ S => .ok (.dct []) S
end
section
variable {X : Cx} {W : WZ} {O : List Nat} {elt tg iter tg1 iter1 : Expr} {ifs ifs1 : List Expr} {scope : Scope} {own : List (Str × Nat)} {vs1 : List Nat} {pos : Pos} {fi fi1 : IF} {g g1 : GF} {t t1 : TG} {fc fc1 fe : EF}
end
/-! ### truth -/
section
variable {X : Cx} {W : WZ} {O : List Nat} {a : Expr} {fa : EF} {k : Kd}
end
end DL

set_option maxHeartbeats 1000000
/-! several except clauses, each with or without a name -/
namespace DL
open PySem PySem.Spec PyProof.Rows L2

abbrev Hd := Value × Option Nat × (Addr → Value → Option Addr → TS)
section
variable {X : Cx} {body : List Stmt} {h₀ : ExceptHandler} {hds : List ExceptHandler} {l : List Hd} {pos : Pos} {tb : WX → TS} {Wout : WX}
end
end DL

set_option maxHeartbeats 1000000
/-! raise, try on plain data -/
namespace DL
open PySem PySem.Spec PyProof.Rows L2

/-! ### an except suite is entered, left -/
section
variable {K : PySem.W.Frag} {ent : Ent none} {O : List Nat} {w : Wit} {H : Hp} {σ : L2.St} {ρ : DEnv} {S : Sto}
theorem R.enter (r : R K ent [] w H σ ρ S) {i : Nat} {a : Addr} {cls : Value} {dx : Option Addr} {x : D} (hx : RepX K w H x cls dx) :
    R K (⟨ent.w, ent.H, ent.k⟩ : Ent (some ⟨i, a, cls, dx, x, none, []⟩)) [i] w H (σ.set i (some (.ref a))) (ρ.set i none) S where
  gd := r.gd
  ext := r.ext
  kn := r.kn
  val := fun j d e n => by
    have q : i ≠ j := fun z => n (by simp [z])
    rw [List.getElem?_set_ne q] at e
    obtain ⟨v, h1, h2⟩ := r.val j d e (by simp)
    exact ⟨v, by rw [List.getElem?_set_ne q]; exact h1, h2⟩
  own := fun j d e n => by
    have q : i = j := (by simpa using n : j = i).symm
    subst q
    have hl : i < ρ.length := by have := (List.getElem?_eq_some_iff.mp e).1; simpa using this
    rw [List.getElem?_set_self hl] at e; cases e
  dis := fun j k b hj hk _ _ _ _ => by
    have q1 : j = i := by simpa using hj
    have q2 : k = i := by simpa using hk
    rw [q1, q2]
  len := by simpa using r.len
  exc := fun z hz hi hn => by
    cases hz
    have hl : i < ρ.length := by have := (List.getElem?_eq_some_iff.mp hn).1; simpa using this
    exact ⟨List.getElem?_set_self (by rw [← r.len]; exact hl), hx⟩
  thk := fun z hz => by cases hz; exact ⟨fun p hp => (by cases hp), fun h => absurd rfl h⟩
theorem R.leave {Z : Option XC} {e' : Ent Z} (r : R K e' O w H σ ρ S) (h1 : e'.w = ent.w) (h2 : e'.H = ent.H) (h3 : e'.k = ent.k) : R K ent O w H σ ρ S :=
  ⟨r.gd, by rw [← h1, ← h2]; exact r.ext, by rw [← h3]; exact r.kn, r.val, by rw [← h2]; exact r.own, r.dis, r.len, fun z hz => (by cases hz), fun z hz => by cases hz⟩
end
/-- one clause: for which classes, the name's slot, the suite -/
structure HdF where
  to : Str → Option Bool
  nm : Option Nat
  g : D → SF
def goneS (i : Nat) (r : SRes) : SRes := match r with
  | .nx ρ S => .nx (ρ.set i none) S
  | .bk ρ S => .bk (ρ.set i none) S
  | .ct ρ S => .ct (ρ.set i none) S
  | r => r
def handD : List HdF → D → DEnv → Sto → SRes
  | [], x, ρ, S => .exn x ρ S
  | h :: r, x, ρ, S => match x with
    | .ins c _ => (match h.to c with
      | some true => (match h.nm with
        | some i => (match h.g x (ρ.set i none) S with
          | .exn _ _ _ => .stuck
          | r => goneS i r)
        | none => (match h.g x ρ S with
          | .exn _ _ _ => .stuck
          | r => r))
      | some false => handD r x ρ S
      | none => .stuck)
    | _ => .stuck
theorem _root_.L2.PSs.ex {X : Cx} {st : List Stmt} {α : Type} {t : α → TS} (h : ∀ x, PSs X st (t x)) : PSs X st (fun D σ H => ∃ x, t x D σ H) := ⟨fun pins s σ H D I ⟨x, q⟩ => (h x).run pins s σ H D I q⟩
/-! ### the caught exception's fields -/
def eXf (i : Nat) (cs : List Str) (f : Str) (x : D) : EF := fun ρ S => match ρ[i]? with
  | some none => (match x with
    | .ins c fs => if c ∈ cs then .ofOpt (fs.lookup f) S else .stuck
    | _ => .stuck)
  | _ => .stuck
theorem _root_.L2.PE.ex {X : Cx} {e : Expr} {α : Type} {p : α → Prop} {t : α → TE} (h : ∀ x, p x → PE X e (t x)) : PE X e (fun σ H Q => ∃ x, p x ∧ t x σ H Q) := ⟨fun pins s σ H Q I ⟨x, px, q⟩ => (h x px).run pins s σ H Q I q⟩
end DL

set_option maxHeartbeats 1000000
/-! raise of own exceptions with fields; dicts of the module; the hook with further facts -/
namespace DL
open PySem PySem.Spec PyProof.Rows L2

/-! ### an own exception class whose __init__ stores its arguments -/
def oexB (K : PySem.W.Frag) (C : Addr) : Bool := (match K.lookup C with
    | some ⟨.type t, _, .cls cd, sl⟩ => decide (t = "type") && (cd.hasDict && (!cd.hasDel && ((match cd.mro with
        | .ref c :: bm => decide (c = C) && PySem.HandSPX.refsVE bm
        | _ => false) && (match sl.toList with
        | [_, _, _, _, k4, _] => decide (k4 = some (.builtin "ValueError.__new__"))
        | _ => false))))
    | _ => false) && (decide (PySem.W.findIn K (.ref C) "__setattr__" = some (some (.builtin "object.__setattr__"))) && (decide (PySem.W.subIn K (.ref C) (.type "BaseException") = some true) && (decide (PySem.W.typeIn K (.ref C) = some (.type "type")) && PySem.W.keepIn K (.ref C))))
section
variable {X : Cx} {K : PySem.W.Frag}
end
def sRaise (x : Str) (fs : List Str) (fa : AF) : SF := fun ρ S => match fa ρ S with
  | .ok ds S1 => .exn (.ins x (fs.zip ds).reverse) ρ S1
  | .exn y S1 => .exn y ρ S1
  | .stuck => .stuck
section
variable {X : Cx} {W : WZ} {L : Lp} {O O' : List Nat} {e : Expr} {es : List Expr} {fa : AF} {x : Str} {fs : List Str} {p pos pos' : Pos}
end
end DL

set_option maxHeartbeats 1000000
/-! dicts of the module with text keys -/
namespace DL
open PySem PySem.Spec PyProof.Rows L2

section
variable {X : Cx} {W : WZ} {O : List Nat} {a : Expr} {fa : EF} {k : Kd} {x : Str} {tab : List (Str × He.Dv)} {p pos : Pos}
end
end DL

set_option maxHeartbeats 1000000
/-! displayed dicts; the hook with further facts -/
namespace DL
open PySem PySem.Spec PyProof.Rows L2

section
variable {X : Cx} {W : WZ} {O : List Nat} {k v : Expr} {ks : List (Option Expr)} {vs : List Expr} {fk fv : EF} {fs : List (EF × EF)} {pos : Pos}
end
/-! ### the hook -/
abbrev AlX : Type := He.AlT × List Bool
def obsX (fa : List He.Fa) (fn : List He.DefD) (ts : List He.Tab) (bs : List (PySem.W.Frag → Bool)) (K : PySem.W.Frag) : AlX := (He.obsT fa fn ts K, bs.map fun b => b K)
def valX (fn : List He.DefD) (ts : List He.Tab) (bs : List (PySem.W.Frag → Bool)) (w : World) : AlX := (He.valT fn ts w, bs.map fun _ => true)
def SaysX (fa : List He.Fa) (fn : List He.DefD) (ts : List He.Tab) (bs : List (PySem.W.Frag → Bool)) (w : World) (K : PySem.W.Frag) : Prop := obsX fa fn ts bs K = valX fn ts bs w
section
variable {fa : List He.Fa} {fn : List He.DefD} {ts : List He.Tab} {bs : List (PySem.W.Frag → Bool)} {w : World} {K : PySem.W.Frag}
theorem SaysX.t (c : SaysX fa fn ts bs w K) : He.SaysT fa fn ts w K := congrArg (fun z : AlX => z.1) c
theorem SaysX.d (c : SaysX fa fn ts bs w K) : He.SaysD fa fn K := c.t.d
theorem SaysX.b (c : SaysX fa fn ts bs w K) (i : Nat) {b : PySem.W.Frag → Bool} (h : bs[i]? = some b := by rfl) : b K = true := by
  have e : bs.map (fun b => b K) = bs.map fun _ => true := congrArg (fun z : AlX => z.2) c
  have e2 : (bs.map (fun b => b K))[i]? = (bs.map fun _ => true)[i]? := by rw [e]
  rw [List.getElem?_map, List.getElem?_map, h] at e2
  exact Option.some.inj e2
end
def clsB : Stmt → List Stmt
  | .ClassDef _ _ _ b _ _ _ _ _ _ _ => b
  | _ => []
end DL

set_option maxHeartbeats 4000000
namespace DL
open PySem PySem.Spec PyProof.Rows L2
end DL

/-! plain lemmas on the data layer's functions -/
namespace DL
open PySem PySem.Spec PyProof.Rows L2

/-! ### data that may be compared -/
def okD (n : Nat) (d : D) : Bool := plD d && ((toPy d).canLay0 && decide ((toPy d).depth ≤ n))
theorem canLayAll0_of : ∀ {ds : List D}, (∀ d ∈ ds, (toPy d).canLay0 = true) → PyData.canLayAll0 (toPys ds) = true
  | [], _ => by simp [toPys, PyData.canLayAll0]
  | d :: ds, h => by
    simp only [toPys, PyData.canLayAll0, Bool.and_eq_true]
    exact ⟨h d List.mem_cons_self, canLayAll0_of fun x hx => h x (List.mem_cons_of_mem _ hx)⟩
theorem depthAll_of {n : Nat} : ∀ {ds : List D}, (∀ d ∈ ds, (toPy d).depth ≤ n) → PyData.depthAll (toPys ds) ≤ n
  | [], _ => by simp [toPys, PyData.depthAll]
  | d :: ds, h => by
    simp only [toPys, PyData.depthAll]
    have h1 := h d List.mem_cons_self
    have h2 := depthAll_of (ds := ds) (n := n) fun x hx => h x (List.mem_cons_of_mem _ hx)
    omega
theorem okD_tup {n : Nat} {ds : List D} (h : ∀ d ∈ ds, okD n d = true) : okD (n + 1) (.tup ds) = true := by
  simp only [okD, Bool.and_eq_true, decide_eq_true_eq] at h ⊢
  refine ⟨by simp only [plD, plDs_all, List.all_eq_true]; exact fun d hd => (h d hd).1, ?_, ?_⟩
  · simp only [toPy, PyData.canLay0]; exact canLayAll0_of fun d hd => (h d hd).2.1
  · simp only [toPy, PyData.depth]; have := depthAll_of (ds := ds) (n := n) fun d hd => (h d hd).2.2; omega
theorem okD_int (i : Int) : okD 0 (.int i) = true := by simp [okD, plD, toPy, PyData.canLay0, PyData.depth]
/-! ### == -/
/-! ### comprehensions, loops -/
end DL

set_option maxHeartbeats 1000000
/-! instances of plain classes: fields read and written, objects made, methods, properties -/
namespace DL
open PySem PySem.Spec PyProof.Rows L2
/-- class and fields of an instance -/
def insOf (S : Sto) : D → Option (Str × List (Str × D))
  | .ins c fs => some (c, fs)
  | .obj n => (match S[n]? with
    | some (.ins c fs) => some (c, fs)
    | _ => none)
  | _ => none
def putFD (f : Str) (v : D) : List (Str × D) → List (Str × D)
  | [] => [(f, v)]
  | (g, x) :: r => if g = f then (g, v) :: r else (g, x) :: putFD f v r
theorem RepF.put {K : PySem.W.Frag} {w : Wit} {f : Str} {d : D} {v : V} (hd : Rep K w d v) : ∀ {fs : List (Str × D)} {vs : List (Str × V)}, RepF K w fs vs → RepF K w (putFD f d fs) (putF f v vs)
  | _, _, .nil => .cons hd .nil
  | _, _, @RepF.cons _ _ k d' v' ds vs h t => by
    unfold putFD putF
    by_cases q : k = f
    · rw [if_pos q, if_pos q]; exact .cons hd t
    · rw [if_neg q, if_neg q]; exact .cons h (RepF.put hd t)
theorem RepF.length {K : PySem.W.Frag} {w : Wit} : ∀ {fs : List (Str × D)} {vs : List (Str × V)}, RepF K w fs vs → fs.length = vs.length
  | _, _, .nil => rfl
  | _, _, .cons h t => by simp [RepF.length t]
/-! ### e.f -/
def eFld (cs : List Str) (f : Str) (e : EF) : EF := fun ρ S => match e ρ S with
  | .ok d S1 => (match insOf S1 d with
    | some (c, fs) => if c ∈ cs then (match fs.lookup f with
      | some x => .ok x S1
      | none => .stuck) else .stuck
    | none => .stuck)
  | .exn x S1 => .exn x S1
  | .stuck => .stuck
section
variable {X : Cx} {W : WZ} {L : Lp} {O O' : List Nat} {e o a : Expr} {es : List Expr} {fe fo fv : EF} {fa : AF} {ff : FF} {f x m c : Str} {cs fs ps : List Str} {p pos pos' apos : Pos} {k j : Nat} {fd : FuncData} {fI : Addr}
/-! ### o.f = e -/
/-! ### an object made -/
/-! ### methods -/
/-! ### a property -/
end
end DL

set_option maxHeartbeats 1000000
/-! the hook with defs at any address (getters of properties); methods' promises -/
namespace DL
open PySem PySem.Spec PyProof.Rows L2
section
variable (fa : List He.Fa) (fn : List He.DefD) (ts : List He.Tab) (bs : List (PySem.W.Frag → Bool)) (fp : List He5.DefA)
end
section
variable {fa : List He.Fa} {fn : List He.DefD} {ts : List He.Tab} {bs : List (PySem.W.Frag → Bool)} {fp : List He5.DefA} {w : World} {K : PySem.W.Frag}
end
/-! ### properties -/
end DL

set_option maxHeartbeats 1000000
/-! comprehensions that walk over an own list -/
namespace DL
open PySem PySem.Spec PyProof.Rows L2
section
variable {X : Cx} {W : WZ} {O : List Nat} {elt tg iter : Expr} {ifs : List Expr} {scope : Scope} {own : List (Str × Nat)} {pos : Pos} {fi : IF} {g : GF} {t : TG} {fc fe : EF}
end
section
variable {X : Cx} {W : WZ} {O : List Nat} {elt tg iter : Expr} {ifs : List Expr} {scope : Scope} {own : List (Str × Nat)} {pos : Pos} {fi : IF} {g : GF} {t : TG} {fc fe : EF}
end
end DL

set_option maxHeartbeats 1000000
/-! module tuples of plain constants -/
namespace DL
open PySem PySem.Spec PyProof.Rows L2
def relsB : List V → List Value → Bool
  | [], [] => true
  | v :: vs, u :: us => He.relB v u && relsB vs us
  | _, _ => false
def ctB (K : PySem.W.Frag) (a : Addr) (ts : List He.Dv) : Bool := match K.lookup a with
  | some ⟨.type t, _, .seq its _, _⟩ => decide (t = "tuple") && (Nat.ble its.size sizeLine && relsB (ts.map (·.v K)) its.toList)
  | _ => false
end DL

set_option maxHeartbeats 1000000
/-! name = [.. for .. for ..] on one line; isinstance of an own class -/
namespace DL
open PySem PySem.Spec PyProof.Rows L2
section
variable {X : Cx} {W : WZ} {O : List Nat} {elt tg iter tg1 iter1 : Expr} {ifs ifs1 : List Expr} {scope : Scope} {own : List (Str × Nat)} {vs1 : List Nat} {pos : Pos} {fi fi1 : IF} {g g1 : GF} {t t1 : TG} {fc fc1 fe : EF}
end
/-- isinstance(.., c) of an own class c, asked of base types and of the classes in al -/
def isOwnB (K : PySem.W.Frag) (c : Str) : Bool := baseTys.all fun t => decide (PySem.W.kitAny K (.type t) [.ref (He.ga K c)] = some false)
def clsIB (K : PySem.W.Frag) (c : Str) : Bool := (He.Fa.cls c).ok K && (He.eqO (PySem.W.findIn K (.ref (He.ga K c)) "__class__") (some (some (.builtin "object.__class__"))) && (He.eqO (PySem.W.specialIn K (.builtin "object.__class__") "__get__") (some (some (.builtin "getset_descriptor.__get__"))) && (decide (PySem.W.takesIn K (.builtin "object.__class__") = some true) && decide (PySem.W.mroIn K (He.ga K c) (.type "object") = some true))))
def kitOB (K : PySem.W.Frag) (z c : Str) (b : Bool) : Bool := decide (PySem.W.kitAny K (.ref (He.ga K z)) [.ref (He.ga K c)] = some b)
end DL

set_option maxHeartbeats 4000000
/-! t[::-1] of tuples -/
namespace HT
open PySem PySem.Spec PyProof.Rows
section
variable {prog : Program} {w : World} {A : Around} {E : Value → Shared → Prop} {s : Shared}
end
end HT
namespace L2
open PySem PySem.Spec PyProof.Rows
section
variable {X : Cx}
end
end L2
namespace DL
open PySem PySem.Spec PyProof.Rows L2
def revA : D → Option D
  | .lst ds => some (.lst ds.reverse)
  | .tup ds => some (.tup ds.reverse)
  | .ctp ds => some (.tup ds.reverse)
  | _ => none
section
variable {X : Cx} {W : WZ} {O : List Nat} {e : Expr} {fa : EF} {ka : Kd} {pos : Pos}
end
end DL

set_option maxHeartbeats 1000000
/-! defs that hand back a new list -/
namespace DL
open PySem PySem.Spec PyProof.Rows L2
section
variable {P : Program} {w : World} {K : PySem.W.Frag} {mg : Str → Option Value} {base : Heap} {x qual : Str} {params : Arguments} {body : List Stmt} {scope : Scope} {dvs : List V} {kws : List (Str × V)} {f : Addr} {fd : FuncData}
end
section
variable {X : Cx} {W : WZ} {O : List Nat} {k : Nat} {ps : List Str} {ff : FF} {x : Str} {p pos : Pos} {e : Expr} {es : List Expr} {fa : AF} {f : Addr} {fd : FuncData}
end
end DL

/-! x == () at tuples of any items -/
namespace DL
open PySem PySem.Spec PyProof.Rows L2
def eqE (x y : D) : Option D := match x, y with
  | .tup xs, .tup [] => some (.bl xs.isEmpty)
  | x, y => eqF x y
section
variable {X : Cx}
end
end DL

/-! l.index(x) -/
namespace DL
open PySem PySem.Spec PyProof.Rows L2
def ixOf (x y : D) : Option D := match x with
  | .lst ds => if shD y = true ∧ shD (.lst ds) = true then (ds.findIdx? fun z => eqD z y).map fun j : Nat => D.int j else none
  | _ => none
def eIdx (fl fx : EF) : EF := fun ρ S => (fl ρ S).bind fun l S1 => match deref S1 l with
  | .lst _ => (fx ρ S1).bind fun x S2 => .ofOpt (ixOf (deref S2 l) (deref S2 x)) S2
  | _ => .stuck
section
variable {X : Cx} {W : WZ} {O : List Nat} {o e : Expr} {fo fe : EF} {ka kb : Kd} {apos cpos : Pos}
end
end DL

/-! tuple(d), the keys of d are tuples -/
namespace DL
open PySem PySem.Spec PyProof.Rows L2
section
variable {prog : Program} {w : World} {A : Around} {E : Value → Shared → Prop} {s : Shared} {r d : Addr} {n : Nat} {P : Nat → Value → Prop} {OK : Heap → Prop}
end
section
variable {X : Cx}
end
/-! ### tuples that stand in the heap may be known to all -/
theorem RepO.nt {K : PySem.W.Frag} {w : Wit} {H : Hp} {a : Addr} : ∀ {o : SO}, RepO K w H a o → NT (H a)
  | .lst _, ⟨_, e, _⟩ => ⟨_, e, fun _ _ z => by rcases z with z | z <;> cases z⟩
  | .dct _, ⟨_, e, _⟩ => ⟨_, e, fun _ _ z => by rcases z with z | z <;> cases z⟩
  | .dtt _, ⟨_, e, _⟩ => ⟨_, e, fun _ _ z => by rcases z with z | z <;> cases z⟩
  | .ins _ _, ⟨_, _, e, _⟩ => ⟨_, e, fun _ _ z => by rcases z with z | z <;> cases z⟩
/-- tuple(x), a dict's keys that are tuples too -/
def tupT (d : D) : Option D := match d with
  | .dtt kvs => some (.tup (kvs.map (·.1)))
  | d => tupF d
end DL

/-! raise X(), X an own exception class without own __init__ -/
namespace DL
open PySem PySem.Spec PyProof.Rows L2
section
variable {X : Cx}
end
def bmVE : List Value := [.type "ValueError", .type "Exception", .type "BaseException", .type "object"]
def ex0B (K : PySem.W.Frag) (C : Addr) : Bool := PySem.W.excIn K C bmVE "ValueError.__new__" && (PySem.W.keepIn K (.ref C) && (decide (PySem.W.subIn K (.ref C) (.type "BaseException") = some true) && decide (PySem.W.typeIn K (.ref C) = some (.type "type"))))
def sRaise0 (x : Str) : SF := fun ρ S => .exn (.ins x []) ρ S
section
variable {X : Cx} {W : WZ} {L : Lp} {O O' : List Nat} {x : Str} {p pos pos' : Pos}
end
end DL

/-! sorted(d.items()), d a dict by texts or whole numbers -/
namespace DL
open PySem PySem.Spec PyProof.Rows L2
/-! ### what is read off a heap lies in it -/
/-! ### many new things, known to all -/
section
variable {K : PySem.W.Frag} {w : Wit} {H H' : Hp} {S : Sto} {L : List Addr}
end
/-! ### the pairs of a dict in order -/
section
variable {X : Cx}
end
section
variable {X : Cx} {W : WZ} {O : List Nat} {o : Expr} {fo : EF} {ka : Kd} {p pos apos cpos : Pos}
end
end DL

/-! sorted(t), t a tuple -/
namespace DL
open PySem PySem.Spec PyProof.Rows L2
section
variable {X : Cx}
end
end DL

/-! a new list from a call becomes an object of the store; x.append(e) of such -/
namespace DL
open PySem PySem.Spec PyProof.Rows L2
section
variable {K : PySem.W.Frag} {w w1 : Wit} {H H1 : Hp} {S : Sto} {a : Addr} {ds : List D}
end
section
variable {X : Cx} {W : WZ} {L : Lp} {O : List Nat} {e : Expr} {fe : EF} {x : Str} {p pos pos' apos cpos : Pos}
end
end DL

set_option maxHeartbeats 4000000
/-! set(xs), xs a list of texts: len(set(xs)), sorted(set(xs)) -/
namespace DL
open PySem PySem.Spec PyProof.Rows L2 PySem.Froz
section
variable {P : Program} {w : World} {A : Around} {E : Value → Shared → Prop} {s : Shared} {a : Addr} {l : List Str}
end
/-- the members, the last met first -/
def metS : List Str → List Str → List Str
  | l, [] => l
  | l, x :: xs => metS (if x ∈ l then l else x :: l) xs
section
variable {P : Program} {w : World} {A : Around} {I : Addr} {fp wr : List Addr} {G : Array GenState → Array GenState → Prop} {n : Nat} {Pv : Nat → Value → Prop} {St : Nat → Shared → Prop}
end
section
variable {P : Program} {w : World} {A : Around} {E : Value → Shared → Prop} {s : Shared}
end
end DL

set_option maxHeartbeats 4000000
/-! len(set(xs)), sorted(set(xs)), xs a list of texts -/
namespace DL
open PySem PySem.Spec PyProof.Rows L2 PySem.Froz
/-! ### the order of texts -/
def leS : Str → Str → Bool := PySem.W.dataLe false fun x => PyData.str x
/-! ### sets tracked -/
section
variable {X : Cx}
end
end DL

set_option maxHeartbeats 4000000
/-! len(set(xs)), sorted(set(xs)): the rules -/
namespace DL
open PySem PySem.Spec PyProof.Rows L2
def strsF : List D → Option (List Str)
  | [] => some []
  | .str x :: ds => (strsF ds).map (x :: ·)
  | _ :: _ => none
section
variable {X : Cx} {W : WZ} {O : List Nat} {o : Expr} {fo : EF} {ka : Kd} {p ps pos cpos : Pos}
end
end DL

set_option maxHeartbeats 4000000
/-! a lambda without parameters handed to a def that calls it in a try -/
namespace DL
open PySem PySem.Spec PyProof.Rows L2
/-- what a lambda tells: from a store on -/
abbrev Th := Sto → Res
def fnT (n : Nat) (fb : Th → SF) : Th → Th := fun th S => match fb th (List.replicate n none) S with
  | .rt d S1 => .ok d S1
  | .nx _ S1 => .ok .non S1
  | .exn x _ S1 => .exn x S1
  | _ => .stuck
section
variable {X : Cx} {W : WZ} {O : List Nat} {fe : EF} {ft : Th → Th}
end
/-! ### the def that got the lambda -/
/-- try: a() / except .. -/
def sTryT (th : Th) (fs : List HdF) : SF := fun ρ S => match ρ[0]? with
  | some none => (match th S with
    | .ok _ S1 => .nx ρ S1
    | .exn x S1 => handD fs x (ρ.map fun _ => none) S1
    | .stuck => .stuck)
  | _ => .stuck
theorem Ext.code {K : PySem.W.Frag} {w w' : Wit} {H H' : Hp} {S : Sto} (g : Gd K w H S) (x : Ext w H w' H') {c : Addr} {q : Str} (h : H c = some (LamX.CodeO c q)) : H' c = some (LamX.CodeO c q) := by
  rcases x.keep c _ h with (⟨n, hn, en⟩ | ⟨ps, e⟩) | z
  · obtain ⟨o, ho⟩ : ∃ o, S[n]? = some o := ⟨_, List.getElem?_eq_getElem (by rw [← g.len]; exact hn)⟩
    exact absurd (en ▸ h) (en ▸ (g.sto n o ho).nocode)
  · exact absurd e (LamX.codeO_ne ps)
  · exact z
section
variable {X : Cx} {W : WZ} {O : List Nat} {fe : EF} {ft : Th → Th}
end
end DL

set_option maxHeartbeats 4000000
/-! l.count(b) of truth values; isinstance of a caught exception; a law with lambdas, its head -/
namespace DL
open PySem PySem.Spec PyProof.Rows L2
/-! ### l.count(b) -/
section
variable {X : Cx}
end
def blsF : List D → Option (List Bool)
  | [] => some []
  | .bl b :: ds => (blsF ds).map (b :: ·)
  | _ :: _ => none
def cntOf (x y : D) : Option D := match x, y with
  | .lst ds, .bl b => (blsF ds).map fun bs => .int (bs.count b : Nat)
  | _, _ => none
def eCnt (fl fx : EF) : EF := fun ρ S => (fl ρ S).bind fun l S1 => match deref S1 l with
  | .lst _ => (fx ρ S1).bind fun x S2 => .ofOpt (cntOf (deref S2 l) (deref S2 x)) S2
  | _ => .stuck
section
variable {X : Cx} {W : WZ} {O : List Nat} {o e : Expr} {fo fe : EF} {ka kb : Kd} {apos cpos : Pos}
end
/-! ### isinstance(e, C), e the caught exception -/
def excCB (K : PySem.W.Frag) (c : Str) : Bool := He.eqO (PySem.W.findIn K (.ref (He.ga K c)) "__getattribute__") (some (some (.builtin "BaseException.__getattribute__"))) && (He.eqO (PySem.W.findIn K (.ref (He.ga K c)) "__getattr__") (some none) && (decide (PySem.W.subIn K (.ref (He.ga K c)) (.type "BaseException") = some true) && (PySem.W.hasDictIn K (He.ga K c) &&
  (He.eqO (PySem.W.findIn K (.ref (He.ga K c)) "__class__") (some (some (.builtin "object.__class__"))) && (He.eqO (PySem.W.specialIn K (.builtin "object.__class__") "__get__") (some (some (.builtin "getset_descriptor.__get__"))) && (decide (PySem.W.takesIn K (.builtin "object.__class__") = some true) && decide (PySem.W.mroIn K (He.ga K c) (.type "object") = some true)))))))
end DL

set_option maxHeartbeats 4000000
/-! a law with lambdas: its promise, its head -/
namespace DL
open PySem PySem.Spec PyProof.Rows L2
/-- the code object of the def at f, the table of the code object at c -/
def cAt (K : PySem.W.Frag) (f : Addr) : Addr := match K.lookup f with
  | some ⟨_, _, .func fd, _⟩ => (match fd.code with
    | .ref c => c
    | _ => 0)
  | _ => 0
def tAt (K : PySem.W.Frag) (f : Addr) : Addr := He.tabOf K (cAt K f)
section
variable {X : Cx} {W : WZ} {O : List Nat} {fe : EF} {ft : Th → Th}
end
/-! ### the head -/
structure TabF (K : PySem.W.Frag) (h : Heap) (f : Addr) : Prop where
  hd : PySem.W.CodeHd h (cAt K f) (tAt K f)
  em : h.get? (tAt K f) = some { cls := .none, data := .fields #[] }
  no : K.lookup (tAt K f) = none
def tabB (g : Addr → Option Obj) (K : PySem.W.Frag) (x : Str) : Bool := PySem.W.codeHdIn K (cAt K (He.ga K x)) (tAt K (He.ga K x)) && (match g (tAt K (He.ga K x)) with
  | some o => He.emptyTab o
  | none => false)
abbrev AlL : Type := AlX × List Bool
def obsL (n : Nat) (fa : List He.Fa) (fn : List He.DefD) (ts : List He.Tab) (bs : List (PySem.W.Frag → Bool)) (tf : List Str) (g : Addr → Option Obj) : AlL := (obsX fa fn ts bs (He.frT g (He.asD g n)), tf.map (tabB g (He.frT g (He.asD g n))))
def SaysL (fa : List He.Fa) (fn : List He.DefD) (ts : List He.Tab) (bs : List (PySem.W.Frag → Bool)) (tf : List Str) (w : World) (h : Heap) (K : PySem.W.Frag) : Prop := SaysX fa fn ts bs w K ∧ ∀ x ∈ tf, TabF K h (He.ga K x)
def hookL (n : Nat) (fa : List He.Fa) (fn : List He.DefD) (ts : List He.Tab) (bs : List (PySem.W.Frag → Bool)) (tf : List Str) : PySem.W.Hook where
  α := AlL
  obs := fun s => obsL n fa fn ts bs tf s.heap.get?
  val := fun w => (valX fn ts bs w, tf.map fun _ => true)
  says := fun w h => ∃ K : PySem.W.Frag, K.In h ∧ SaysL fa fn ts bs tf w h K
  of := fun w hs e => by
    let h := hs.heap
    have e1 : obsX fa fn ts bs (He.frT h.get? (He.asD h.get? n)) = valX fn ts bs w := congrArg Prod.fst e
    have e2 : tf.map (tabB h.get? (He.frT h.get? (He.asD h.get? n))) = tf.map fun _ => true := congrArg Prod.snd e
    refine ⟨_, He.frT_in, e1, fun x hx => ?_⟩
    have e3 := List.map_inj_left.mp e2 x hx
    unfold tabB at e3
    obtain ⟨h1, h2⟩ := Bool.and_eq_true_iff.mp e3
    cases q : h.get? (tAt (He.frT h.get? (He.asD h.get? n)) (He.ga (He.frT h.get? (He.asD h.get? n)) x)) with
    | none => rw [q] at h2; cases h2
    | some o =>
      rw [q] at h2
      exact ⟨PySem.W.codeHd_of_K He.frT_in h1, by rw [q, He.emptyTab_eq h2], He.frT_none q h2⟩
  keeps := fun _ _ _ ⟨K, hK, c, t⟩ k => ⟨K, PySem.W.Frag.In.keeps hK k, c, fun x hx => ⟨(t x hx).hd.keeps k, k _ _ (t x hx).em, (t x hx).no⟩⟩
theorem obsL_eq {n : Nat} {fa : List He.Fa} {fn : List He.DefD} {ts : List He.Tab} {bs : List (PySem.W.Frag → Bool)} {tf : List Str} {g : Addr → Option Obj} {s : Shared} (h : ∀ a, g a = s.heap.get? a) : obsL n fa fn ts bs tf g = (hookL n fa fn ts bs tf).obs s := by
  have e : g = s.heap.get? := funext h
  rw [e] <;> rfl
end DL

set_option maxHeartbeats 4000000
/-! == of objects whose class has its own __eq__ -/
namespace DL
open PySem PySem.Spec PyProof.Rows L2
section
variable {X : Cx} {C g : Addr} {k : Nat} {fd : FuncData} {ps : List Str} {sp : Sp}
end
section
variable {X : Cx} {W : WZ} {O : List Nat} {a b : Expr} {fa fb : EF} {ff : FF} {c : Str} {k : Nat} {ps : List Str} {pos : Pos}
end
end DL

set_option maxHeartbeats 4000000
/-! isinstance(e, T), e the caught exception, with fields or without -/
namespace DL
open PySem PySem.Spec PyProof.Rows L2
def eXis2 (i : Nat) (to : Str → Option Bool) (x : D) : EF := fun ρ S => match ρ[i]? with
  | some none => (match x with
    | .ins c _ => (match to c with
      | some b => .ok (.bl b) S
      | none => .stuck)
    | _ => .stuck)
  | _ => .stuck
end DL

set_option maxHeartbeats 1000000
/-! the hook with getters of properties: the interpreter's own statics are in its view -/
namespace DL
open PySem PySem.Spec PyProof.Rows L2
section
variable (fa : List He.Fa) (fn : List He.DefD) (ts : List He.Tab) (bs : List (PySem.W.Frag → Bool)) (fp : List He5.DefA)
end
section
variable {fa : List He.Fa} {fn : List He.DefD} {ts : List He.Tab} {bs : List (PySem.W.Frag → Bool)} {fp : List He5.DefA} {w : World} {K : PySem.W.Frag}
end
end DL

set_option maxHeartbeats 1000000
/-! {k: v for x in .. if ..}, keys texts or ints -/
namespace DL
open PySem PySem.Spec PyProof.Rows L2
section
variable {X : Cx} {W : WZ} {O : List Nat} {kx vx tg iter : Expr} {ifs : List Expr} {scope : Scope} {own : List (Str × Nat)} {pos : Pos} {fi : IF} {g : GF} {t : TG} {fc fk fv : EF}
end
end DL

set_option maxHeartbeats 4000000
/-! t[-2::-1] of tuples -/
namespace HT
open PySem PySem.Spec PyProof.Rows
section
variable {prog : Program} {w : World} {A : Around} {E : Value → Shared → Prop} {s : Shared}
end
end HT
namespace L2
open PySem PySem.Spec PyProof.Rows
section
variable {X : Cx}
end
end L2
namespace DL
open PySem PySem.Spec PyProof.Rows L2
section
variable {X : Cx} {W : WZ} {O : List Nat} {e : Expr} {fa : EF} {ka : Kd} {pos : Pos}
end
end DL

set_option maxHeartbeats 4000000
/-! sorted of any walked thing: by what collecting it gives -/
namespace PySem.W
open PySem PySem.Spec PyProof.Rows PySem.Calls
section
variable {prog : Program} {w : World} {A : Around} {E : Value → Shared → Prop} {s : Shared} {β : Type} {vs : List Value} {bs : List β} {enc : β → PyData} {R : Value → β → Prop}
end
end PySem.W

set_option maxHeartbeats 4000000
/-! sorted of tuples, lists and dicts -/
namespace PySem.W
open PySem PySem.Spec PyProof.Rows PySem.Calls
section
variable {prog : Program} {w : World} {A : Around} {E : Value → Shared → Prop} {s : Shared} {β : Type} {bs : List β} {enc : β → PyData} {R : Value → β → Prop}
end
end PySem.W
namespace DL
open PySem PySem.Spec PyProof.Rows L2
def itemsA : D → Option (List D)
  | .lst ds => some ds
  | .tup ds => some ds
  | .ctp ds => some ds
  | .dct kvs => some (kvs.map (·.1))
  | _ => none
section
variable {X : Cx} {pins : List (Addr × Obj)} {σ : L2.St} {s : Shared} {H : Hp} {w : Wit} {S : Sto}
end
section
variable {X : Cx}
end
end DL

set_option maxHeartbeats 4000000
/-! {k: v for x in .. if .. for y in .. if ..} -/
namespace DL
open PySem PySem.Spec PyProof.Rows L2
section
variable {kx vx t0 i0 t1 i1 : Expr} {ifs0 ifs1 : List Expr} {scope : Scope} {pos : Pos}
variable {prog : Program} {w : World} {A : Around} {R : Result → Shared → Prop} {s : Shared} {it : Value} {D : Addr} {env : Env}
end
/-! ### a turn of a clause in a block -/
section
variable {X : Cx} {pins : List (Addr × Obj)} {σ : L2.St} {H : Hp} {s : Shared} {tg : Expr} {ifs : List Expr} {g : TG} {tt : TT} {J : It} {fp : List Addr} {it : Addr} {tn : Nat → Heap → Prop} {i : Nat} {ER : Value → Shared → Prop}
end
/-! ### the two loops -/
section
variable {X : Cx} {pins : List (Addr × Obj)} {kx vx t0 i0 t1 i1 : Expr} {ifs0 ifs1 : List Expr} {scope : Scope} {pos : Pos} {g1 : TG} {tt1 : TT} {tk tv : TE} {J1 : It} {fp1 : List Addr} {it1 : Addr} {tn1 : Nat → Heap → Prop} {σ1 : L2.St} {vs1 : List Nat} {s : Shared} {H : Hp} {D : Addr} {End : Hp → Prop}
end
section
variable {X : Cx}
end
end DL

set_option maxHeartbeats 4000000
/-! dict comprehensions of two clauses, on data -/
namespace DL
open PySem PySem.Spec PyProof.Rows L2
def dcDs (g : GF) (fc fk fv : EF) : List D → List (D × D) → DEnv → Sto → Res
  | [], acc, _, S => .ok (.dct acc) S
  | x :: xs, acc, ρ, S => match g x ρ with
    | none => .stuck
    | some ρ1 => match fc ρ1 S with
      | .ok (.bl true) S1 => (match fk ρ1 S1 with
        | .ok k S2 => (match fv ρ1 S2 with
          | .ok v S3 => (match kOf k with
            | some kk => if acc.length < LIM then dcDs g fc fk fv xs (putKD acc (fun x => decide (kOf x = some kk)) k v) ρ S3 else .stuck
            | none => .stuck)
          | _ => .stuck)
        | _ => .stuck)
      | .ok (.bl false) S1 => dcDs g fc fk fv xs acc ρ S1
      | _ => .stuck
def dcD2 (g : GF) (fc : EF) (fi1 : IF) (vs1 : List Nat) (g1 : GF) (fc1 fk fv : EF) : List D → List (D × D) → DEnv → Sto → Res
  | [], acc, _, S => .ok (.dct acc) S
  | x :: xs, acc, ρ, S => match g x ρ with
    | none => .stuck
    | some ρ1 => match fc ρ1 S with
      | .ok (.bl true) S1 => (match fi1 ρ1 S1 with
        | .ok ds S2 => (match dcDs g1 fc1 fk fv ds acc (wipeD ρ1 vs1) S2 with
          | .ok (.dct acc') S3 => dcD2 g fc fi1 vs1 g1 fc1 fk fv xs acc' ρ S3
          | _ => .stuck)
        | _ => .stuck)
      | .ok (.bl false) S1 => dcD2 g fc fi1 vs1 g1 fc1 fk fv xs acc ρ S1
      | _ => .stuck
def eDc2 (vs vs1 : List Nat) (fi : IF) (g : GF) (fc : EF) (fi1 : IF) (g1 : GF) (fc1 fk fv : EF) : EF := fun ρ S => match fi ρ S with
  | .ok ds S1 => dcD2 g fc fi1 vs1 g1 fc1 fk fv ds [] (wipeD ρ vs) S1
  | .exn x S1 => .exn x S1
  | .stuck => .stuck
section
variable {X : Cx} {W : WZ} {O : List Nat} {kx vx tg iter tg1 iter1 : Expr} {ifs ifs1 : List Expr} {scope : Scope} {own : List (Str × Nat)} {vs1 : List Nat} {pos : Pos} {fi fi1 : IF} {g gg : GF} {t t1 : TG} {fc fc1 fk fv : EF}
end
section
variable {X : Cx} {W : WZ} {O : List Nat} {kx vx tg iter : Expr} {ifs : List Expr} {scope : Scope} {own : List (Str × Nat)} {pos : Pos} {fi : IF} {g : GF} {t : TG} {fc fk fv : EF}
end
end DL

set_option maxHeartbeats 4000000
/-! set(t), t a tuple of texts -/
namespace DL
open PySem PySem.Spec PyProof.Rows L2 PySem.Froz
section
variable {P : Program} {w : World} {A : Around} {E : Value → Shared → Prop} {s : Shared}
end
def txtsA : D → Option (List Str)
  | .lst ds => (strsF ds).bind fun l => if l.length < 1000 then some l else none
  | .tup ds => (strsF ds).bind fun l => if l.length < 1000 then some l else none
  | _ => none
def lenSetA (d : D) : Option D := (txtsA d).map fun l => .int (metS [] l).length
section
variable {X : Cx} {W : WZ} {O : List Nat} {o : Expr} {fo : EF} {ka : Kd} {p ps pos cpos : Pos}
end
end DL

set_option maxHeartbeats 4000000
/-! sorted, told so that the kernel can run it: by insertion, where no two items are alike -/
namespace DL
open PySem PySem.Spec PyProof.Rows L2
def ins1 {α : Type} (le : α → α → Bool) (x : α) : List α → List α
  | [] => [x]
  | y :: l => if le x y then x :: y :: l else y :: ins1 le x l
def insS {α : Type} (le : α → α → Bool) : List α → List α
  | [] => []
  | x :: l => ins1 le x (insS le l)
def strictS {α : Type} (le : α → α → Bool) : List α → Bool
  | [] => true
  | x :: l => l.all (fun y => !le y x) && strictS le l
def sortK (d : D) : Option D := match itemsA d with
  | some ds => if (sortOk ds && strictS (PySem.W.dataLe false toPy) (insS (PySem.W.dataLe false toPy) ds)) = true then some (.lst (insS (PySem.W.dataLe false toPy) ds)) else none
  | none => none
def srtSetK (d : D) : Option D := match txtsA d with
  | some l => if strictS leS (insS leS (metS [] l)) = true then some (.lst ((insS leS (metS [] l)).map .str)) else none
  | none => none
section
variable {X : Cx}
end
end DL

set_option maxHeartbeats 4000000
/-! list(d), the keys of d are tuples -/
namespace DL
open PySem PySem.Spec PyProof.Rows L2
section
variable {X : Cx}
/-- list(x), a dict's keys that are tuples too -/
def lstT (d : D) : Option D := match d with
  | .dtt kvs => some (.lst (kvs.map (·.1)))
  | d => lstF d
end
end DL

set_option maxHeartbeats 4000000
/-! {k: v}, k a tuple -/
namespace DL
open PySem PySem.Spec PyProof.Rows L2
section
variable {X : Cx} {ke ve : Expr} {pos : Pos} {tk tv : TE}
end
def eDispT (fk fv : EF) : EF := fun ρ S => (fk ρ S).bind fun k S1 => (fv ρ S1).bind fun v S2 => match tOf k with
  | some _ => .ok (.dtt [(k, v)]) S2
  | none => .stuck
section
variable {X : Cx} {W : WZ} {O : List Nat} {ke ve : Expr} {pos : Pos} {fk fv : EF}
end
end DL

set_option maxHeartbeats 4000000
/-! comprehensions that walk over an own dict: the dict is locked meanwhile -/
namespace DL
open PySem PySem.Spec PyProof.Rows L2
section
variable {K : PySem.W.Frag} {Z : Option XC} {ent : Ent Z} {O O' : List Nat} {w : Wit} {H : Hp} {σ : L2.St} {ρ : DEnv} {S : Sto} {i : Nat}
end
def eLcD (i : Nat) (vs : List Nat) (g : GF) (fc fe : EF) : EF := fun ρ S => match ρ[i]? with
  | some (some (.dtt kvs)) => if kvs.length < LIM then lcD g fc fe (kvs.map (·.1)) [] (wipeD (ρ.set i none) vs) S else .stuck
  | some (some (.dct kvs)) => if kvs.length < LIM then lcD g fc fe (kvs.map (·.1)) [] (wipeD (ρ.set i none) vs) S else .stuck
  | _ => .stuck
theorem RepT.get {K : PySem.W.Frag} {w : Wit} : ∀ {ds : List (D × D)} {vs : List (List L2.Key × V)}, RepT K w ds vs → ∀ {j : Nat} {k : List L2.Key} {v : V}, vs[j]? = some (k, v) → (ds.map (·.1))[j]? = some (.tup (k.map kD))
  | _, _, .nil, j, k, v, h => by simp at h
  | _, _, .cons h t, 0, k, v, e => by simp at e; obtain ⟨rfl, rfl⟩ := e; rfl
  | _, _, .cons h t, j + 1, k, v, e => t.get (j := j) (by simpa using e)
theorem RepK.get {K : PySem.W.Frag} {w : Wit} : ∀ {ds : List (D × D)} {vs : List (L2.Key × V)}, RepK K w ds vs → ∀ {j : Nat} {k : L2.Key} {v : V}, vs[j]? = some (k, v) → (ds.map (·.1))[j]? = some (kD k)
  | _, _, .nil, j, k, v, h => by simp at h
  | _, _, .cons h t, 0, k, v, e => by simp at e; obtain ⟨rfl, rfl⟩ := e; rfl
  | _, _, .cons h t, j + 1, k, v, e => t.get (j := j) (by simpa using e)
section
variable {K : PySem.W.Frag} {W : WZ} {O O' vs : List Nat} {g : GF} {t : TG} {fc fe : EF} {i : Nat}
end
section
variable {X : Cx} {W : WZ} {O O' : List Nat} {elt tg : Expr} {ifs : List Expr} {scope : Scope} {own : List (Str × Nat)} {pos npos : Pos} {g : GF} {t : TG} {fc fe : EF} {x : Str}
end
end DL

set_option maxHeartbeats 4000000
/-! min(l), l a list of texts -/
namespace DL
open PySem PySem.Spec PyProof.Rows L2
section
variable {X : Cx}
end
end DL

set_option maxHeartbeats 1000000
/-! try with clauses that are never met: the body raises nothing -/
namespace L2
open PySem PySem.Spec PyProof.Rows
section
variable {X : Cx} {body : List Stmt} {h₀ : ExceptHandler} {hds : List ExceptHandler} {pos : Pos} {tb : TS}
end
end L2
namespace DL
open PySem PySem.Spec PyProof.Rows L2
end DL

set_option maxHeartbeats 1000000
/-! dict(pairs) -/
namespace DL
open PySem PySem.Spec PyProof.Rows L2
section
variable {K : PySem.W.Frag} {w : Wit} {H : Hp}
end
section
variable {X : Cx}
end
end DL

set_option maxHeartbeats 1000000
/-! range(i, j, -1) -/
namespace DL
open PySem PySem.Spec PyProof.Rows L2
section
variable {K : PySem.W.Frag} {w : Wit}
end
section
variable {X : Cx} {W : WZ} {O : List Nat} {tg e e' e'' : Expr} {fa : AF}
end
end DL

set_option maxHeartbeats 4000000
/-! comprehensions that walk over a known dict: [.. for k in x[0] ..]: the dict is locked meanwhile -/
namespace DL
open PySem PySem.Spec PyProof.Rows L2
section
variable {K : PySem.W.Frag} {w w' : Wit} {a : Addr} {us : List (L2.Key × V)}
/-- a known dict, locked -/
def Wit.put (w : Wit) (a : Addr) (o : HO) : Wit := { w with F := fun b => if b = a then some o else w.F b }
end
/-- [.. for v in x[c] ..], x a known list of dicts -/
def eLcKd (i : Nat) (c : Int) (vs : List Nat) (g : GF) (fc fe : EF) : EF := fun ρ S => match ρ[i]? with
  | some (some (.lst ds)) => (match L2.atI ds c with
    | some (.dct kvs) => if kvs.length < LIM then lcD g fc fe (kvs.map (·.1)) [] (wipeD ρ vs) S else .stuck
    | _ => .stuck)
  | _ => .stuck
section
variable {K : PySem.W.Frag} {W : WZ} {vs : List Nat} {g : GF} {t : TG} {fc fe : EF} {i : Nat} {c : Int}
end
section
variable {X : Cx} {W : WZ} {elt tg : Expr} {ifs : List Expr} {scope : Scope} {own : List (Str × Nat)} {pos npos spos cpos : Pos} {cj : Nat} {g : GF} {t : TG} {fc fe : EF} {x : Str} {c : Int}
end
end DL

/-! name += e of numbers, of an own list; an own list extended by a new list -/
namespace DL
open PySem PySem.Spec PyProof.Rows L2
section
variable {X : Cx} {W : WZ} {L : Lp} {O : List Nat} {e : Expr} {fe : EF} {k : Kd} {x : Str} {p pos pos' apos cpos : Pos}
end
section
variable {X : Cx} {W : WZ} {O : List Nat} {e : Expr} {fe : EF}
end
end DL

/-! a call of what an expression gives: one of some defs -/
namespace DL
open PySem PySem.Spec PyProof.Rows L2
def eCallV (tbl : List (Str × FF)) (ff : EF) (fa : AF) : EF := fun ρ S => (ff ρ S).bind fun d S1 => match d with
  | .cls x => (match tbl.lookup x with
    | some g => eCall g fa ρ S1
    | none => .stuck)
  | _ => .stuck
section
variable {X : Cx} {W : WZ} {O : List Nat} {fe e : Expr} {es : List Expr} {ff : EF} {fa : AF} {x : Str} {pos : Pos} {n : Nat} {tbl : List (Str × FF)} {k : Nat} {ps : List Str} {g : FF}
end
end DL

namespace H
open DL PySem PySem.Spec PyProof.Rows L2
def tb_tuple : String → Bool := fun t => (t == "tuple")
def to_tuple : Str → Option Bool := fun _ => none
def tb_str : String → Bool := fun t => (t == "str")
def to_str : Str → Option Bool := fun _ => none
def tb_int : String → Bool := fun t => (t == "int") || (t == "bool")
def to_int : Str → Option Bool := fun _ => none
def tb_bool : String → Bool := fun t => (t == "bool")
def to_bool : Str → Option Bool := fun _ => none
def tb_House : String → Bool := fun t => false
def to_House : Str → Option Bool := fun d => if d = "House" then some true else none
def to_ClassError : Str → Option Bool := fun _ => none
def b_names_of : SF :=
  (sRet (eLst (aCons (eC (.str ("top" : Str))) (aStar (eLc [1] (iSeq (eVar 0)) (gtName 1) eYes (e2 ixF (eVar 1) (eC (.int 0)))) aNil))))
def f_names_of : FF := fnD 2 b_names_of

def b_is_list : SF :=
  (sRet (eAnd (e1 (isF tb_tuple to_tuple) (eVar 0)) (e2 (iLt fun i j => decide (i ≤ j)) (eN (f1 lenF) (aCons (eVar 0) aNil)) (eVar 1))))
def f_is_list : FF := fnD 2 b_is_list

def b_is_word : SF :=
  (sRet (eAnd (e1 (isF tb_str to_str) (eVar 0)) (eAnd (eChain (iLt fun i j => decide (i ≤ j)) (iLt fun i j => decide (i ≤ j)) (eC (.int 1)) (eN (f1 lenF) (aCons (eVar 0) aNil)) (eC (.int 6))) (eN (f1 allF) (aCons (eLc [1] (iStr (eVar 0)) (gtName 1) eYes (e2 signF (eVar 1) (eC (.str ("abcdefghijklmnopqrstuvwxyz" : Str))))) aNil)))))
def f_is_word : FF := fnD 2 b_is_word

def b_row_of : SF :=
  (sSeq (sSet 2 (eLst aNil))
  (sSeq (sFor (iSeq (e1 revA (eVar 0))) (gtName 3) (sIf (e2 eqF (e2 ixF (eVar 3) (eC (.int 0))) (eVar 1)) (sSeq (sApp 2 (eVar 3))
  (sSet 1 (e2 ixF (eVar 3) (eC (.int 1))))) sNext))
  (sRet (eVar 2))))
def f_row_of : FF := fnD 4 b_row_of

def b_is_in : SF :=
  (sRet (eAnd (e1 (isF tb_int to_int) (eVar 0)) (eAnd (eNot (e1 (isF tb_bool to_bool) (eVar 0))) (eChain (iLt fun i j => decide (i ≤ j)) (iLt fun i j => decide (i ≤ j)) (eVar 1) (eVar 0) (eVar 2)))))
def f_is_in : FF := fnD 3 b_is_in

def b_is_kind_in : SF :=
  (sRet (eAnd (eCall f_is_word (aCons (eVar 1) aNil)) (eOr (e2 eqF (eVar 1) (eC (.str ("num" : Str)))) (e2 inF (eVar 1) (eVar 0)))))
def f_is_kind_in : FF := fnD 2 b_is_kind_in

def b_need_house : SF :=
  (sIf (eNot (e1 (isF tb_House to_House) (eVar 0))) sNever sNext)
def f_need_house : FF := fnD 1 b_need_house

def b_need_name : SF :=
  (sIf (eOr (eNot (e1 (isF tb_str to_str) (eVar 1))) (e2 notInF (eVar 1) (eCall f_names_of (aCons (eFld [("House" : Str)] ("told" : Str) (eVar 0)) aNil)))) sNever sNext)
def f_need_name : FF := fnD 2 b_need_name

def b_up_from : SF :=
  (sRet (eTup (aStar (eLc [2] (iSeq (eCall f_row_of (aCons (eFld [("House" : Str)] ("told" : Str) (eVar 0)) (aCons (eVar 1) aNil)))) (gtName 2) eYes (e2 ixF (eVar 2) (eC (.int 0)))) (aCons (eC (.str ("top" : Str))) aNil))))
def f_up_from : FF := fnD 3 b_up_from

def b_is_fit : SF :=
  (sSeq (sIf (eOr (e2 eqF (eVar 1) (eVar 2)) (eOr (e2 eqF (eVar 2) (eC (.str ("unset" : Str)))) (eAnd (e2 eqF (eVar 2) (eC (.str ("odd" : Str)))) (e2 neF (eVar 1) (eC (.str ("unset" : Str))))))) (sRet (eC (.bl true))) sNext)
  (sSeq (sIf (eOr (e2 inF (eVar 1) (eTup (aCons (eC (.str ("unset" : Str))) (aCons (eC (.str ("odd" : Str))) (aCons (eC (.str ("num" : Str))) aNil))))) (e2 inF (eVar 2) (eTup (aCons (eC (.str ("num" : Str))) (aCons (eC (.str ("none" : Str))) aNil))))) (sRet (eC (.bl false))) sNext)
  (sRet (eOr (e2 eqF (eVar 1) (eC (.str ("none" : Str)))) (e2 inF (eVar 2) (eCall f_up_from (aCons (eVar 0) (aCons (eVar 1) aNil))))))))
def f_is_fit : FF := fnD 3 b_is_fit

def b_is_option : SF :=
  (sSeq (sSet 2 (eCall f_names_of (aCons (eFld [("House" : Str)] ("told" : Str) (eVar 0)) aNil)))
  (sRet (eAnd (eCall f_is_list (aCons (eVar 1) (aCons (eC (.int 3)) aNil))) (eN (f1 allF) (aCons (eLc [3] (iSeq (eVar 1)) (gtName 3) eYes (eCall f_is_kind_in (aCons (eVar 2) (aCons (eVar 3) aNil)))) aNil)))))
def f_is_option : FF := fnD 4 b_is_option

def b_need_choice : SF :=
  (sSeq (sExpr (eCall f_need_house (aCons (eVar 0) aNil)))
  (sSeq (sIf (eOr (eNot (eCall f_is_list (aCons (eVar 1) (aCons (eC (.int 8)) aNil)))) (e2 eqE (eVar 1) (eTup aNil))) sNever sNext)
  (sFor (iEn (aCons (eVar 1) aNil)) (gtTup (gtCons (gtName 2) (gtCons (gtName 3) gtNil))) (sIf (eOr (eNot (eCall f_is_option (aCons (eVar 0) (aCons (eVar 3) aNil)))) (e2 inF (eVar 3) (eSl slF (eVar 1) (eC .non) (e1 ptF (eVar 2))))) sNever sNext))))
def f_need_choice : FF := fnD 4 b_need_choice

def b_takes : SF :=
  (sRet (eAnd (e2 eqF (eN (f1 lenF) (aCons (eVar 1) aNil)) (eN (f1 lenF) (aCons (eVar 2) aNil))) (eN (f1 allF) (aCons (eLc [3, 4] (iZip (aCons (eVar 2) (aCons (eVar 1) aNil))) (gtTup (gtCons (gtName 3) (gtCons (gtName 4) gtNil))) eYes (eCall f_is_fit (aCons (eVar 0) (aCons (eVar 3) (aCons (eVar 4) aNil))))) aNil))))
def f_takes : FF := fnD 5 b_takes

def b_taking : SF :=
  (sRet (eLc [3, 4] (iEn (aCons (eVar 1) aNil)) (gtTup (gtCons (gtName 3) (gtCons (gtName 4) gtNil))) (eCall f_takes (aCons (eVar 0) (aCons (eVar 4) (aCons (eVar 2) aNil)))) (eVar 3)))
def f_taking : FF := fnD 5 b_taking

def b_best_of : SF :=
  (sSeq (sFor (iSeq (eVar 2)) (gtName 3) (sIf (eN (f1 allF) (aCons (eLc [4] (iSeq (eVar 2)) (gtName 4) eYes (eCall f_takes (aCons (eVar 0) (aCons (e2 ixF (eVar 1) (eVar 4)) (aCons (e2 ixF (eVar 1) (eVar 3)) aNil))))) aNil)) (sRet (eVar 3)) sNext))
  (sRet (eC .non)))
def f_best_of : FF := fnD 5 b_best_of

def b_is_double : SF :=
  (sSeq (sFor (iSeq (eVar 2)) (gtName 4) (sIf (eN (f1 allF) (aCons (eLc [5] (iSeq (eVar 3)) (gtName 5) eYes (eCall f_takes (aCons (eVar 0) (aCons (e2 ixF (eVar 1) (eVar 5)) (aCons (e2 ixF (eVar 1) (eVar 4)) aNil))))) aNil)) (sRet (eC (.bl false))) sNext))
  (sRet (eC (.bl true))))
def f_is_double : FF := fnD 6 b_is_double

def b_paper_of : SF :=
  (sSeq (sSet 3 (eCall f_taking (aCons (eVar 0) (aCons (eVar 1) (aCons (eVar 2) aNil)))))
  (sSeq (sIf (e2 eqF (eVar 3) (eLst aNil)) (sRet (eTup (aCons (eC (.str ("none" : Str))) aNil))) sNext)
  (sSeq (sSet 4 (eCall f_best_of (aCons (eVar 0) (aCons (eVar 1) (aCons (eVar 3) aNil)))))
  (sSeq (sIf (eNotN (eVar 4)) (sRet (eTup (aCons (eC (.str ("one" : Str))) (aCons (eVar 4) aNil)))) sNext)
  (sSeq (sSet 5 (eLc2 [6, 7] [7] (iSeq (eVar 3)) (gtName 6) eYes (iSeq (eVar 3)) (gtName 7) (e2 (iLt fun i j => decide (i < j)) (eVar 6) (eVar 7)) (eTup (aCons (eVar 6) (aCons (eVar 7) aNil)))))
  (sRet (eTup (aCons (eC (.str ("two" : Str))) (aStar (e2 ixF (eLc [8] (iSeq (eVar 5)) (gtName 8) (eCall f_is_double (aCons (eVar 0) (aCons (eVar 1) (aCons (eVar 3) (aCons (eVar 8) aNil))))) (eVar 8)) (eC (.int 0))) aNil)))))))))
def f_paper_of : FF := fnD 9 b_paper_of

def b_first_double : SF :=
  (sSeq (sExpr (eCall f_need_choice (aCons (eVar 0) (aCons (eVar 1) aNil))))
  (sSeq (sPar [2, 3] (aCons (eN (f1 sortF) (aCons (eLst (aStar (eCall f_names_of (aCons (eFld [("House" : Str)] ("told" : Str) (eVar 0)) aNil)) (aCons (eC (.str ("num" : Str))) (aCons (eC (.str ("none" : Str))) aNil)))) aNil)) (aCons (eLst (aCons (eTup aNil) aNil)) aNil)))
  (sSeq (sFor (iRange1 (aCons (e2 addF (eC (.int 3)) (eC (.int 1))) aNil)) (gtName 4) (sSeq (sFor (iSeq (eVar 3)) (gtName 5) (sIf (e2 eqF (e2 ixF (eCall f_paper_of (aCons (eVar 0) (aCons (eVar 1) (aCons (eVar 5) aNil)))) (eC (.int 0))) (eC (.str ("two" : Str)))) (sRet (eVar 5)) sNext))
  (sSet 3 (eLc2 [5, 6] [6] (iSeq (eVar 3)) (gtName 5) eYes (iSeq (eVar 2)) (gtName 6) eYes (eTup (aStar (eVar 5) (aCons (eVar 6) aNil)))))))
  (sRet (eC .non)))))
def f_first_double : FF := fnD 7 b_first_double

def b_need_kinds : SF :=
  (sSeq (sSet 2 (eLst (aStar (eCall f_names_of (aCons (eFld [("House" : Str)] ("told" : Str) (eVar 0)) aNil)) (aCons (eC (.str ("none" : Str))) aNil))))
  (sIf (eOr (eNot (eCall f_is_list (aCons (eVar 1) (aCons (eC (.int 3)) aNil)))) (eNot (eN (f1 allF) (aCons (eLc [3] (iSeq (eVar 1)) (gtName 3) eYes (eCall f_is_kind_in (aCons (eVar 2) (aCons (eVar 3) aNil)))) aNil)))) sNever sNext))
def f_need_kinds : FF := fnD 4 b_need_kinds

def b_choice_paper : SF :=
  (sSeq (sExpr (eCall f_need_choice (aCons (eVar 0) (aCons (eVar 1) aNil))))
  (sSeq (sExpr (eCall f_need_kinds (aCons (eVar 0) (aCons (eVar 2) aNil))))
  (sRet (eCall f_paper_of (aCons (eVar 0) (aCons (eVar 1) (aCons (eVar 2) aNil)))))))
def f_choice_paper : FF := fnD 3 b_choice_paper

def b_shows_choice : SF :=
  (sSeq (sExpr (eCall f_need_choice (aCons (eVar 0) (aCons (eVar 1) aNil))))
  (sSeq (sExpr (eCall f_need_kinds (aCons (eVar 0) (aCons (eVar 2) aNil))))
  (sSeq (sIf (eOr (eNot (e1 (isF tb_tuple to_tuple) (eVar 3))) (eOr (e2 eqE (eVar 3) (eTup aNil)) (eNot (e1 (isF tb_str to_str) (e2 ixF (eVar 3) (eC (.int 0))))))) (sRet (eC (.bl false))) sNext)
  (sSeq (sSet 4 (eCall f_taking (aCons (eVar 0) (aCons (eVar 1) (aCons (eVar 2) aNil)))))
  (sSeq (sIf (e2 eqF (e2 ixF (eVar 3) (eC (.int 0))) (eC (.str ("none" : Str)))) (sRet (eAnd (e2 eqF (eN (f1 lenF) (aCons (eVar 3) aNil)) (eC (.int 1))) (e2 eqF (eVar 4) (eLst aNil)))) sNext)
  (sSeq (sIf (eNot (eN (f1 allF) (aCons (eLc [5] (iSeq (eSl slF (eVar 3) (e1 ptF (eC (.int 1))) (eC .non))) (gtName 5) eYes (eAnd (e1 (isF tb_int to_int) (eVar 5)) (eAnd (eNot (e1 (isF tb_bool to_bool) (eVar 5))) (e2 inF (eVar 5) (eVar 4))))) aNil))) (sRet (eC (.bl false))) sNext)
  (sSeq (sIf (e2 eqF (e2 ixF (eVar 3) (eC (.int 0))) (eC (.str ("one" : Str)))) (sRet (eAnd (e2 eqF (eN (f1 lenF) (aCons (eVar 3) aNil)) (eC (.int 2))) (e2 eqF (eCall f_best_of (aCons (eVar 0) (aCons (eVar 1) (aCons (eVar 4) aNil)))) (e2 ixF (eVar 3) (eC (.int 1)))))) sNext)
  (sRet (eAnd (e2 eqF (e2 ixF (eVar 3) (eC (.int 0))) (eC (.str ("two" : Str)))) (eAnd (e2 eqF (eN (f1 lenF) (aCons (eVar 3) aNil)) (eC (.int 3))) (eAnd (e2 (iLt fun i j => decide (i < j)) (e2 ixF (eVar 3) (eC (.int 1))) (e2 ixF (eVar 3) (eC (.int 2)))) (eCall f_is_double (aCons (eVar 0) (aCons (eVar 1) (aCons (eVar 4) (aCons (eSl slF (eVar 3) (e1 ptF (eC (.int 1))) (eC .non)) aNil))))))))))))))))
def f_shows_choice : FF := fnD 6 b_shows_choice

end H

namespace H
open DL PySem PySem.Spec PyProof.Rows L2 H
def b_row_made : SF :=
  (sSeq (sSet 2 (eLst aNil))
  (sSeq (sFor (iSeq (e1 revA (eCall f_row_of (aCons (eFld [("House" : Str)] ("told" : Str) (eVar 0)) (aCons (eVar 1) aNil))))) (gtName 3) (sSeq (sSet 4 (eLc [6] (iSeq (e2 ixF (eVar 3) (eC (.int 3)))) (gtName 6) eYes (e2 ixF (eVar 6) (eC (.int 0)))))
  (sSeq (sSet 2 (eLc [7, 8] (iSeq (eVar 2)) (gtTup (gtCons (gtName 7) (gtCons (gtName 8) gtNil))) eYes (eTup (aCons (eVar 7) (aCons (eIf (e2 inF (eVar 7) (eVar 4)) (e2 ixF (eVar 3) (eC (.int 0))) (eVar 8)) aNil)))))
  (sSeq (sSet 5 (eLc [7, 8] (iSeq (eVar 2)) (gtTup (gtCons (gtName 7) (gtCons (gtName 8) gtNil))) eYes (eVar 7)))
  (sSet 2 (e2 addF (eVar 2) (eLc [7] (iSeq (eVar 4)) (gtName 7) (e2 notInF (eVar 7) (eVar 5)) (eTup (aCons (eVar 7) (aCons (e2 ixF (eVar 3) (eC (.int 0))) aNil))))))))))
  (sRet (eN (f1 tupF) (aCons (eVar 2) aNil)))))
def f_row_made : FF := fnD 9 b_row_made

def b_method_row : SF :=
  (sSeq (sExpr (eCall f_need_house (aCons (eVar 0) aNil)))
  (sSeq (sExpr (eCall f_need_name (aCons (eVar 0) (aCons (eVar 1) aNil))))
  (sRet (eCall f_row_made (aCons (eVar 0) (aCons (eVar 1) aNil))))))
def f_method_row : FF := fnD 2 b_method_row

def b_need_word : SF :=
  (sIf (eNot (eCall f_is_word (aCons (eVar 0) aNil))) sNever sNext)
def f_need_word : FF := fnD 1 b_need_word

def b_need_asked : SF :=
  (sSeq (sExpr (eCall f_need_house (aCons (eVar 0) aNil)))
  (sSeq (sExpr (eCall f_need_name (aCons (eVar 0) (aCons (eVar 1) aNil))))
  (sExpr (eCall f_need_word (aCons (eVar 2) aNil)))))
def f_need_asked : FF := fnD 3 b_need_asked

def b_slot_of : SF :=
  (sSeq (sExpr (eCall f_need_asked (aCons (eVar 0) (aCons (eVar 1) (aCons (eVar 2) aNil)))))
  (sSeq (sSet 3 (eLc [4, 5] (iSeq (eCall f_row_made (aCons (eVar 0) (aCons (eVar 1) aNil)))) (gtTup (gtCons (gtName 4) (gtCons (gtName 5) gtNil))) eYes (eVar 4)))
  (sRet (eIf (e2 inF (eVar 2) (eVar 3)) (eIdx (eVar 3) (eVar 2)) (eC .non)))))
def f_slot_of : FF := fnD 6 b_slot_of

def b_at_slot : SF :=
  (sSeq (sExpr (eCall f_need_house (aCons (eVar 0) aNil)))
  (sSeq (sExpr (eCall f_need_name (aCons (eVar 0) (aCons (eVar 1) aNil))))
  (sSeq (sSet 3 (eCall f_row_made (aCons (eVar 0) (aCons (eVar 1) aNil))))
  (sSeq (sIf (eNot (eCall f_is_in (aCons (eVar 2) (aCons (eC (.int 0)) (aCons (e2 subF (eN (f1 lenF) (aCons (eVar 3) aNil)) (eC (.int 1))) aNil))))) sNever sNext)
  (sSeq (sUnp (gtTup (gtCons (gtName 4) (gtCons (gtName 5) gtNil))) (e2 ixF (eVar 3) (eVar 2)))
  (sRet (eTup (aCons (eVar 5) (aCons (eIdx (eLc [6] (iSeq (e2 ixF (e2 ixF (eCall f_row_of (aCons (eFld [("House" : Str)] ("told" : Str) (eVar 0)) (aCons (eVar 5) aNil))) (eC (.int 0))) (eC (.int 3)))) (gtName 6) eYes (e2 ixF (eVar 6) (eC (.int 0)))) (eVar 4)) aNil)))))))))
def f_at_slot : FF := fnD 7 b_at_slot

end H

namespace H
open DL PySem PySem.Spec PyProof.Rows L2 H
end H

set_option maxHeartbeats 4000000
namespace K53
open DL PySem PySem.Spec PyProof.Rows L2 H
def tpS (i : Nat) : Stmt := PySem.Challenge.pw_classhouse_k53_calls_refused.main.body.getD i (.Pass ⟨0, 0, 0, 0⟩)
def inClass (st : Stmt) (i : Nat) : Stmt := (clsB st).getD i (.Pass ⟨0, 0, 0, 0⟩)
abbrev s_names_of : Stmt := tpS 31
def d_names_of : He.DefD := ⟨("names_of", none), "names_of", "names_of", defArgs s_names_of, defBody s_names_of, defScope s_names_of, [], []⟩
abbrev s_is_list : Stmt := tpS 30
def d_is_list : He.DefD := ⟨("is_list", none), "is_list", "is_list", defArgs s_is_list, defBody s_is_list, defScope s_is_list, [], []⟩
abbrev s_is_word : Stmt := tpS 29
def d_is_word : He.DefD := ⟨("is_word", none), "is_word", "is_word", defArgs s_is_word, defBody s_is_word, defScope s_is_word, [], []⟩
abbrev s_is_class : Stmt := tpS 33
def d_is_class : He.DefD := ⟨("is_class", none), "is_class", "is_class", defArgs s_is_class, defBody s_is_class, defScope s_is_class, [], []⟩
abbrev s_row_of : Stmt := tpS 32
def d_row_of : He.DefD := ⟨("row_of", none), "row_of", "row_of", defArgs s_row_of, defBody s_row_of, defScope s_row_of, [], []⟩
abbrev s_are_fields : Stmt := tpS 34
def d_are_fields : He.DefD := ⟨("are_fields", none), "are_fields", "are_fields", defArgs s_are_fields, defBody s_are_fields, defScope s_are_fields, [], []⟩
abbrev s_has_seen : Stmt := tpS 37
def d_has_seen : He.DefD := ⟨("has_seen", none), "has_seen", "has_seen", defArgs s_has_seen, defBody s_has_seen, defScope s_has_seen, [], []⟩
abbrev s_is_in : Stmt := tpS 28
def d_is_in : He.DefD := ⟨("is_in", none), "is_in", "is_in", defArgs s_is_in, defBody s_is_in, defScope s_is_in, [], []⟩
abbrev s_is_step : Stmt := tpS 38
def d_is_step : He.DefD := ⟨("is_step", none), "is_step", "is_step", defArgs s_is_step, defBody s_is_step, defScope s_is_step, [], []⟩
abbrev s_is_handler : Stmt := tpS 39
def d_is_handler : He.DefD := ⟨("is_handler", none), "is_handler", "is_handler", defArgs s_is_handler, defBody s_is_handler, defScope s_is_handler, [], []⟩
abbrev s_check_code : Stmt := tpS 40
def d_check_code : He.DefD := ⟨("check_code", none), "check_code", "check_code", defArgs s_check_code, defBody s_check_code, defScope s_check_code, [], []⟩
abbrev s_is_kind_in : Stmt := tpS 35
def d_is_kind_in : He.DefD := ⟨("is_kind_in", none), "is_kind_in", "is_kind_in", defArgs s_is_kind_in, defBody s_is_kind_in, defScope s_is_kind_in, [], []⟩
abbrev s_is_method : Stmt := tpS 36
def d_is_method : He.DefD := ⟨("is_method", none), "is_method", "is_method", defArgs s_is_method, defBody s_is_method, defScope s_is_method, [], []⟩
abbrev s_check_classes : Stmt := tpS 41
def d_check_classes : He.DefD := ⟨("check_classes", none), "check_classes", "check_classes", defArgs s_check_classes, defBody s_check_classes, defScope s_check_classes, [], []⟩
abbrev s_House___init__ : Stmt := inClass (tpS 42) 0
def d_House___init__ : He.DefD := ⟨("House", some "__init__"), "__init__", "House.__init__", defArgs s_House___init__, defBody s_House___init__, defScope s_House___init__, [], []⟩
abbrev s__law_taken : Stmt := tpS 95
def d__law_taken : He.DefD := ⟨("_law_taken", none), "_law_taken", "_law_taken", defArgs s__law_taken, defBody s__law_taken, defScope s__law_taken, [], []⟩
abbrev s__law_pick : Stmt := tpS 96
def d__law_pick : He.DefD := ⟨("_law_pick", none), "_law_pick", "_law_pick", defArgs s__law_pick, defBody s__law_pick, defScope s__law_pick, [], []⟩
abbrev s__law_errorc : Stmt := tpS 97
def d__law_errorc : He.DefD := ⟨("_law_errorc", none), "_law_errorc", "_law_errorc", defArgs s__law_errorc, defBody s__law_errorc, defScope s__law_errorc, [], []⟩
abbrev s_need_house : Stmt := tpS 43
def d_need_house : He.DefD := ⟨("need_house", none), "need_house", "need_house", defArgs s_need_house, defBody s_need_house, defScope s_need_house, [], []⟩
abbrev s_is_option : Stmt := tpS 54
def d_is_option : He.DefD := ⟨("is_option", none), "is_option", "is_option", defArgs s_is_option, defBody s_is_option, defScope s_is_option, [], []⟩
abbrev s_need_choice : Stmt := tpS 55
def d_need_choice : He.DefD := ⟨("need_choice", none), "need_choice", "need_choice", defArgs s_need_choice, defBody s_need_choice, defScope s_need_choice, [], []⟩
abbrev s_need_kinds : Stmt := tpS 56
def d_need_kinds : He.DefD := ⟨("need_kinds", none), "need_kinds", "need_kinds", defArgs s_need_kinds, defBody s_need_kinds, defScope s_need_kinds, [], []⟩
abbrev s_up_from : Stmt := tpS 49
def d_up_from : He.DefD := ⟨("up_from", none), "up_from", "up_from", defArgs s_up_from, defBody s_up_from, defScope s_up_from, [], []⟩
abbrev s_is_fit : Stmt := tpS 50
def d_is_fit : He.DefD := ⟨("is_fit", none), "is_fit", "is_fit", defArgs s_is_fit, defBody s_is_fit, defScope s_is_fit, [], []⟩
abbrev s_takes : Stmt := tpS 57
def d_takes : He.DefD := ⟨("takes", none), "takes", "takes", defArgs s_takes, defBody s_takes, defScope s_takes, [], []⟩
abbrev s_taking : Stmt := tpS 58
def d_taking : He.DefD := ⟨("taking", none), "taking", "taking", defArgs s_taking, defBody s_taking, defScope s_taking, [], []⟩
abbrev s_takers : Stmt := tpS 59
def d_takers : He.DefD := ⟨("takers", none), "takers", "takers", defArgs s_takers, defBody s_takers, defScope s_takers, [], []⟩
abbrev s_need_name : Stmt := tpS 48
def d_need_name : He.DefD := ⟨("need_name", none), "need_name", "need_name", defArgs s_need_name, defBody s_need_name, defScope s_need_name, [], []⟩
abbrev s_need_word : Stmt := tpS 68
def d_need_word : He.DefD := ⟨("need_word", none), "need_word", "need_word", defArgs s_need_word, defBody s_need_word, defScope s_need_word, [], []⟩
abbrev s_need_asked : Stmt := tpS 69
def d_need_asked : He.DefD := ⟨("need_asked", none), "need_asked", "need_asked", defArgs s_need_asked, defBody s_need_asked, defScope s_need_asked, [], []⟩
abbrev s_line_of : Stmt := tpS 75
def d_line_of : He.DefD := ⟨("line_of", none), "line_of", "line_of", defArgs s_line_of, defBody s_line_of, defScope s_line_of, [], []⟩
abbrev s_reached_from : Stmt := tpS 80
def d_reached_from : He.DefD := ⟨("reached_from", none), "reached_from", "reached_from", defArgs s_reached_from, defBody s_reached_from, defScope s_reached_from, [], []⟩
abbrev s_row_made : Stmt := tpS 70
def d_row_made : He.DefD := ⟨("row_made", none), "row_made", "row_made", defArgs s_row_made, defBody s_row_made, defScope s_row_made, [], []⟩
abbrev s_method_row : Stmt := tpS 71
def d_method_row : He.DefD := ⟨("method_row", none), "method_row", "method_row", defArgs s_method_row, defBody s_method_row, defScope s_method_row, [], []⟩
abbrev s_words_seen : Stmt := tpS 84
def d_words_seen : He.DefD := ⟨("words_seen", none), "words_seen", "words_seen", defArgs s_words_seen, defBody s_words_seen, defScope s_words_seen, [], []⟩
abbrev s_shared : Stmt := tpS 88
def d_shared : He.DefD := ⟨("shared", none), "shared", "shared", defArgs s_shared, defBody s_shared, defScope s_shared, [], []⟩
abbrev s_seen_by_all : Stmt := tpS 89
def d_seen_by_all : He.DefD := ⟨("seen_by_all", none), "seen_by_all", "seen_by_all", defArgs s_seen_by_all, defBody s_seen_by_all, defScope s_seen_by_all, [], []⟩
abbrev s_targets_of : Stmt := tpS 78
def d_targets_of : He.DefD := ⟨("targets_of", none), "targets_of", "targets_of", defArgs s_targets_of, defBody s_targets_of, defScope s_targets_of, [], []⟩
abbrev s_widest_call : Stmt := tpS 81
def d_widest_call : He.DefD := ⟨("widest_call", none), "widest_call", "widest_call", defArgs s_widest_call, defBody s_widest_call, defScope s_widest_call, [], []⟩
abbrev s_every_word : Stmt := tpS 90
def d_every_word : He.DefD := ⟨("every_word", none), "every_word", "every_word", defArgs s_every_word, defBody s_every_word, defScope s_every_word, [], []⟩
abbrev s_closed_lots : Stmt := tpS 93
def d_closed_lots : He.DefD := ⟨("closed_lots", none), "closed_lots", "closed_lots", defArgs s_closed_lots, defBody s_closed_lots, defScope s_closed_lots, [], []⟩
abbrev s_is_double : Stmt := tpS 62
def d_is_double : He.DefD := ⟨("is_double", none), "is_double", "is_double", defArgs s_is_double, defBody s_is_double, defScope s_is_double, [], []⟩
abbrev s_best_of : Stmt := tpS 60
def d_best_of : He.DefD := ⟨("best_of", none), "best_of", "best_of", defArgs s_best_of, defBody s_best_of, defScope s_best_of, [], []⟩
abbrev s_shows_choice : Stmt := tpS 65
def d_shows_choice : He.DefD := ⟨("shows_choice", none), "shows_choice", "shows_choice", defArgs s_shows_choice, defBody s_shows_choice, defScope s_shows_choice, [], []⟩
abbrev s_paper_of : Stmt := tpS 63
def d_paper_of : He.DefD := ⟨("paper_of", none), "paper_of", "paper_of", defArgs s_paper_of, defBody s_paper_of, defScope s_paper_of, [], []⟩
abbrev s_first_double : Stmt := tpS 66
def d_first_double : He.DefD := ⟨("first_double", none), "first_double", "first_double", defArgs s_first_double, defBody s_first_double, defScope s_first_double, [], []⟩
abbrev s_slot_of : Stmt := tpS 72
def d_slot_of : He.DefD := ⟨("slot_of", none), "slot_of", "slot_of", defArgs s_slot_of, defBody s_slot_of, defScope s_slot_of, [], []⟩
abbrev s_at_slot : Stmt := tpS 73
def d_at_slot : He.DefD := ⟨("at_slot", none), "at_slot", "at_slot", defArgs s_at_slot, defBody s_at_slot, defScope s_at_slot, [], []⟩
abbrev s_method_line : Stmt := tpS 76
def d_method_line : He.DefD := ⟨("method_line", none), "method_line", "method_line", defArgs s_method_line, defBody s_method_line, defScope s_method_line, [], []⟩
abbrev s_upper_method : Stmt := tpS 77
def d_upper_method : He.DefD := ⟨("upper_method", none), "upper_method", "upper_method", defArgs s_upper_method, defBody s_upper_method, defScope s_upper_method, [], []⟩
abbrev s_targets : Stmt := tpS 79
def d_targets : He.DefD := ⟨("targets", none), "targets", "targets", defArgs s_targets, defBody s_targets, defScope s_targets, [], []⟩
abbrev s_nearest_taker : Stmt := tpS 61
def d_nearest_taker : He.DefD := ⟨("nearest_taker", none), "nearest_taker", "nearest_taker", defArgs s_nearest_taker, defBody s_nearest_taker, defScope s_nearest_taker, [], []⟩
abbrev s_choice_paper : Stmt := tpS 64
def d_choice_paper : He.DefD := ⟨("choice_paper", none), "choice_paper", "choice_paper", defArgs s_choice_paper, defBody s_choice_paper, defScope s_choice_paper, [], []⟩
abbrev s_need_words : Stmt := tpS 83
def d_need_words : He.DefD := ⟨("need_words", none), "need_words", "need_words", defArgs s_need_words, defBody s_need_words, defScope s_need_words, [], []⟩
abbrev s_having : Stmt := tpS 85
def d_having : He.DefD := ⟨("having", none), "having", "having", defArgs s_having, defBody s_having, defScope s_having, [], []⟩
abbrev s_who_has : Stmt := tpS 86
def d_who_has : He.DefD := ⟨("who_has", none), "who_has", "who_has", defArgs s_who_has, defBody s_who_has, defScope s_who_has, [], []⟩
abbrev s_first_who : Stmt := tpS 87
def d_first_who : He.DefD := ⟨("first_who", none), "first_who", "first_who", defArgs s_first_who, defBody s_first_who, defScope s_first_who, [], []⟩
abbrev s_closing : Stmt := tpS 91
def d_closing : He.DefD := ⟨("closing", none), "closing", "closing", defArgs s_closing, defBody s_closing, defScope s_closing, [], []⟩
abbrev s_closed_words : Stmt := tpS 92
def d_closed_words : He.DefD := ⟨("closed_words", none), "closed_words", "closed_words", defArgs s_closed_words, defBody s_closed_words, defScope s_closed_words, [], []⟩
abbrev s__law_ask : Stmt := tpS 98
def d__law_ask : He.DefD := ⟨("_law_ask", none), "_law_ask", "_law_ask", defArgs s__law_ask, defBody s__law_ask, defScope s__law_ask, [], []⟩
abbrev s_law : Stmt := tpS 99
def d_law : He.DefD := ⟨("law", none), "law", "law", defArgs s_law, defBody s_law, defScope s_law, [], []⟩
abbrev s_BadChoice : Stmt := inClass (tpS 11) 0
def d_BadChoice : He.DefD := ⟨("BadChoice", some "__init__"), "__init__", "BadChoice.__init__", defArgs s_BadChoice, defBody s_BadChoice, defScope s_BadChoice, [], []⟩
def fn : List He.DefD := [d_names_of, d_is_list, d_is_word, d_is_class, d_row_of, d_are_fields, d_has_seen, d_is_in, d_is_step, d_is_handler, d_check_code, d_is_kind_in, d_is_method, d_check_classes, d_House___init__, d__law_taken, d__law_pick, d__law_errorc, d_need_house, d_is_option, d_need_choice, d_need_kinds, d_up_from, d_is_fit, d_takes, d_taking, d_takers, d_need_name, d_need_word, d_need_asked, d_line_of, d_reached_from, d_row_made, d_method_row, d_words_seen, d_shared, d_seen_by_all, d_targets_of, d_widest_call, d_every_word, d_closed_lots, d_is_double, d_best_of, d_shows_choice, d_paper_of, d_first_double, d_slot_of, d_at_slot, d_method_line, d_upper_method, d_targets, d_nearest_taker, d_choice_paper, d_need_words, d_having, d_who_has, d_first_who, d_closing, d_closed_words, d__law_ask, d_law, d_BadChoice]
def fa : List He.Fa := [.str "TOP" ("top" : Str), .glo "names_of", .free "isinstance", .free "tuple", .free "len", .glo "is_list", .free "str", .free "all", .str "LETTERS" ("abcdefghijklmnopqrstuvwxyz" : Str), .glo "is_word", .glo "BARRED", .glo "is_class", .glo "row_of", .str "NUM" ("num" : Str), .int "MOST_PARTS" 4, .glo "are_fields", .free "any", .glo "has_seen", .free "int", .free "bool", .glo "is_in", .int "LOCALS" 4, .glo "ENDS", .glo "BARE", .glo "is_step", .glo "is_handler", .free "range", .free "enumerate", .int "MOST_STEPS" 20, .glo "check_code", .glo "is_kind_in", .int "MOST_INS_houses" 3, .glo "is_method", .int "MOST_CLASSES" 8, .glo "check_classes", .cls "House", .noat "House" "told", .glo "_law_taken", .glo "_law_pick", .glo "ClassError", .exm "NoHouse" "ClassError" true, .exm "BadName" "ClassError" true, .exm "BadWord" "ClassError" true, .exm "BadSlot" "ClassError" true, .exm "BadChoice" "ClassError" true, .exm "BadKinds" "ClassError" true, .exm "NotOwn" "ClassError" true, .exm "BadWords" "ClassError" true, .exm "BadNames" "ClassError" true, .glo "BadSlot", .glo "BadWord", .glo "BadName", .glo "NoHouse", .glo "NotOwn", .glo "BadKinds", .glo "BadChoice", .glo "BadNames", .glo "BadWords", .noat "BadChoice" "index", .glo "_law_errorc", .glo "House", .glo "need_house", .int "MOST_INS_calls" 3, .glo "is_option", .int "MOST_OPTIONS" 8, .glo "need_choice", .str "NONE" ("none" : Str), .glo "need_kinds", .glo "up_from", .str "UNSET" ("unset" : Str), .str "ODD" ("odd" : Str), .glo "is_fit", .free "zip", .glo "takes", .glo "taking", .glo "takers", .glo "need_name", .glo "need_word", .glo "need_asked", .glo "line_of", .glo "reached_from", .glo "row_made", .glo "method_row", .glo "words_seen", .free "sorted", .glo "shared", .free "set", .glo "seen_by_all", .glo "targets_of", .glo "widest_call", .glo "every_word", .free "list", .glo "closed_lots", .glo "is_double", .glo "best_of", .glo "shows_choice", .glo "paper_of", .glo "first_double", .glo "slot_of", .glo "at_slot", .glo "method_line", .glo "upper_method", .glo "targets", .glo "nearest_taker", .glo "choice_paper", .glo "need_words", .glo "having", .glo "who_has", .glo "first_who", .glo "closing", .glo "closed_words", .glo "_law_ask", .mkr "House", .glo "law", .meth "BadChoice" "__init__"]
def ts : List He.Tab := []
def bs : List (PySem.W.Frag → Bool) := [fun K => ctB K (He.ga K "BARRED") [.str ("top" : Str), .str ("num" : Str), .str ("none" : Str), .str ("odd" : Str), .str ("unset" : Str)], fun K => ctB K (He.ga K "ENDS") [.str ("give" : Str), .str ("go" : Str), .str ("throw" : Str)], fun K => ctB K (He.ga K "BARE") [.str ("none" : Str), .str ("add" : Str), .str ("less" : Str), .str ("same" : Str), .str ("give" : Str), .str ("throw" : Str), .str ("enter" : Str), .str ("leave" : Str), .str ("copy" : Str), .str ("drop" : Str), .str ("print" : Str)], fun K => excCB K "NoHouse", fun K => kitOB K "NoHouse" "BadSlot" false, fun K => excCB K "BadName", fun K => kitOB K "BadName" "BadSlot" false, fun K => excCB K "BadWord", fun K => kitOB K "BadWord" "BadSlot" false, fun K => excCB K "BadSlot", fun K => kitOB K "BadSlot" "BadSlot" true, fun K => excCB K "BadChoice", fun K => kitOB K "BadChoice" "BadSlot" false, fun K => excCB K "BadKinds", fun K => kitOB K "BadKinds" "BadSlot" false, fun K => excCB K "NotOwn", fun K => kitOB K "NotOwn" "BadSlot" false, fun K => excCB K "BadWords", fun K => kitOB K "BadWords" "BadSlot" false, fun K => excCB K "BadNames", fun K => kitOB K "BadNames" "BadSlot" false, fun K => kitOB K "NoHouse" "BadWord" false, fun K => kitOB K "BadName" "BadWord" false, fun K => kitOB K "BadWord" "BadWord" true, fun K => kitOB K "BadSlot" "BadWord" false, fun K => kitOB K "BadChoice" "BadWord" false, fun K => kitOB K "BadKinds" "BadWord" false, fun K => kitOB K "NotOwn" "BadWord" false, fun K => kitOB K "BadWords" "BadWord" false, fun K => kitOB K "BadNames" "BadWord" false, fun K => kitOB K "NoHouse" "BadName" false, fun K => kitOB K "BadName" "BadName" true, fun K => kitOB K "BadWord" "BadName" false, fun K => kitOB K "BadSlot" "BadName" false, fun K => kitOB K "BadChoice" "BadName" false, fun K => kitOB K "BadKinds" "BadName" false, fun K => kitOB K "NotOwn" "BadName" false, fun K => kitOB K "BadWords" "BadName" false, fun K => kitOB K "BadNames" "BadName" false, fun K => kitOB K "NoHouse" "NoHouse" true, fun K => kitOB K "BadName" "NoHouse" false, fun K => kitOB K "BadWord" "NoHouse" false, fun K => kitOB K "BadSlot" "NoHouse" false, fun K => kitOB K "BadChoice" "NoHouse" false, fun K => kitOB K "BadKinds" "NoHouse" false, fun K => kitOB K "NotOwn" "NoHouse" false, fun K => kitOB K "BadWords" "NoHouse" false, fun K => kitOB K "BadNames" "NoHouse" false, fun K => kitOB K "NoHouse" "NotOwn" false, fun K => kitOB K "BadName" "NotOwn" false, fun K => kitOB K "BadWord" "NotOwn" false, fun K => kitOB K "BadSlot" "NotOwn" false, fun K => kitOB K "BadChoice" "NotOwn" false, fun K => kitOB K "BadKinds" "NotOwn" false, fun K => kitOB K "NotOwn" "NotOwn" true, fun K => kitOB K "BadWords" "NotOwn" false, fun K => kitOB K "BadNames" "NotOwn" false, fun K => kitOB K "NoHouse" "BadKinds" false, fun K => kitOB K "BadName" "BadKinds" false, fun K => kitOB K "BadWord" "BadKinds" false, fun K => kitOB K "BadSlot" "BadKinds" false, fun K => kitOB K "BadChoice" "BadKinds" false, fun K => kitOB K "BadKinds" "BadKinds" true, fun K => kitOB K "NotOwn" "BadKinds" false, fun K => kitOB K "BadWords" "BadKinds" false, fun K => kitOB K "BadNames" "BadKinds" false, fun K => kitOB K "NoHouse" "BadChoice" false, fun K => kitOB K "BadName" "BadChoice" false, fun K => kitOB K "BadWord" "BadChoice" false, fun K => kitOB K "BadSlot" "BadChoice" false, fun K => kitOB K "BadChoice" "BadChoice" true, fun K => kitOB K "BadKinds" "BadChoice" false, fun K => kitOB K "NotOwn" "BadChoice" false, fun K => kitOB K "BadWords" "BadChoice" false, fun K => kitOB K "BadNames" "BadChoice" false, fun K => kitOB K "NoHouse" "BadNames" false, fun K => kitOB K "BadName" "BadNames" false, fun K => kitOB K "BadWord" "BadNames" false, fun K => kitOB K "BadSlot" "BadNames" false, fun K => kitOB K "BadChoice" "BadNames" false, fun K => kitOB K "BadKinds" "BadNames" false, fun K => kitOB K "NotOwn" "BadNames" false, fun K => kitOB K "BadWords" "BadNames" false, fun K => kitOB K "BadNames" "BadNames" true, fun K => kitOB K "NoHouse" "BadWords" false, fun K => kitOB K "BadName" "BadWords" false, fun K => kitOB K "BadWord" "BadWords" false, fun K => kitOB K "BadSlot" "BadWords" false, fun K => kitOB K "BadChoice" "BadWords" false, fun K => kitOB K "BadKinds" "BadWords" false, fun K => kitOB K "NotOwn" "BadWords" false, fun K => kitOB K "BadWords" "BadWords" true, fun K => kitOB K "BadNames" "BadWords" false, fun K => xfB K (He.ga K "BadChoice"), fun K => ex0B K (He.ga K "NoHouse"), fun K => isOwnB K "House", fun K => clsIB K "House", fun K => kitOB K "House" "House" true, fun K => ex0B K (He.ga K "BadKinds"), fun K => ex0B K (He.ga K "BadName"), fun K => ex0B K (He.ga K "BadWord"), fun K => ex0B K (He.ga K "NotOwn"), fun K => ex0B K (He.ga K "BadNames"), fun K => ex0B K (He.ga K "BadSlot"), fun K => ex0B K (He.ga K "BadWords"), fun K => oexB K (He.ga K "BadChoice"), fun K => decide (PySem.W.typeIn K (.ref (He.ma K (He.ga K "BadChoice") "__init__")) = some (.type "function"))]
end K53

set_option maxHeartbeats 0
namespace K53
open DL PySem PySem.Spec PyProof.Rows L2
abbrev R : PySem.W.OpenRow := PySem.W.OpenLaw.row PySem.Challenge.rw_classhouse_k53_calls_refused
abbrev hk : PySem.W.Hook := hookL 4 fa fn ts bs ["law"]
def ob (s : PySem.W.SharedT) : AlL := obsL 4 fa fn ts bs ["law"] (HandSHeadRun.getT s)
theorem ob_eq (s : PySem.W.SharedT) : ob s = hk.obs s.abs := obsL_eq (HandSHeadRun.getT_eq s)
abbrev loose : List Str := (["ClassError", "BadClasses", "BadFields", "BadMethods", "BadCode", "BadHandlers", "NoHouse", "BadName", "BadWord", "BadSlot", "BadChoice", "BadKinds", "NotOwn", "BadWords", "BadNames"] : List Str) ++ (["LETTERS", "MOST_CLASSES", "MOST_PARTS", "MOST_STEPS", "MOST_INS_houses", "LOCALS", "TOP", "NUM", "BARRED", "BARE", "ENDS", "is_in", "is_word", "is_list", "names_of"] : List Str) ++ (["row_of", "is_class", "are_fields", "is_kind_in", "is_method", "has_seen", "is_step", "is_handler", "check_code", "check_classes", "House", "need_house", "NONE", "ODD", "UNSET"] : List Str) ++ (["need_name", "up_from", "is_fit", "MOST_OPTIONS", "MOST_INS_calls", "is_option", "need_choice", "need_kinds", "takes", "taking", "takers", "best_of", "nearest_taker", "is_double", "paper_of"] : List Str) ++ (["choice_paper", "shows_choice", "first_double", "need_word", "need_asked", "row_made", "method_row", "slot_of", "at_slot", "line_of", "method_line", "upper_method", "targets_of", "targets", "reached_from"] : List Str) ++ (["widest_call", "need_words", "words_seen", "having", "who_has", "first_who", "shared", "seen_by_all", "every_word", "closing", "closed_words", "closed_lots", "_law_taken", "_law_pick", "_law_errorc"] : List Str) ++ (["_law_ask"] : List Str)
theorem runF (w : World) : HandSHeadRun.RunEq R (PySem.W.view R.prog [99]) hk ob 6000 loose (w.withFollow "special-get-raises" false) := by
  intro os
  kernel_rfl
theorem runT (w : World) : HandSHeadRun.RunEq R (PySem.W.view R.prog [99]) hk ob 6000 loose (w.withFollow "special-get-raises" true) := by
  intro os
  kernel_rfl
theorem run : ∀ w : World, HandSHeadRun.RunEq R (PySem.W.view R.prog [99]) hk ob 6000 loose w :=
  PySem.W.byRow2 "special-get-raises" (P := fun w => HandSHeadRun.RunEq R (PySem.W.view R.prog [99]) hk ob 6000 loose w) runF runT
end K53

/-! the data layer: plain data for Python values, and what stands for them in the heap -/
namespace DL
open PySem PySem.Spec PyProof.Rows L2

@[simp] theorem Res.bind_ok (d : D) (S : Sto) (f : D → Sto → Res) : (Res.ok d S).bind f = f d S := rfl
@[simp] theorem Res.ofOpt_some (d : D) (S : Sto) : Res.ofOpt (some d) S = .ok d S := rfl
/-! ### a dict that tells True at None, at numbers -/
theorem dn_pairs {P P' : Program} {w w' : World} {es : List DictEntry} {kvs : List (Option Key × Value)} (h : Pairs (noneKind P w) es kvs) : Pairs (noneKind P' w') es kvs := by
  induction h with
  | nil => exact .nil
  | cons h1 h2 _ ih => exact .cons h1 h2 ih
theorem dn_key {P : Program} {w : World} {es : List DictEntry} {kvs : List (Option Key × Value)} (h : Pairs (noneKind P w) es kvs) {e : DictEntry} (he : e ∈ es) : ∃ kv ∈ kvs, (noneKind P w).is kv.1 e.key = true := by
  induction h with
  | nil => cases he
  | cons h1 _ _ ih =>
    rcases List.mem_cons.mp he with rfl | he
    · exact ⟨_, List.mem_cons_self .., h1⟩
    · obtain ⟨kv, h2, h3⟩ := ih he
      exact ⟨kv, List.mem_cons_of_mem _ h2, h3⟩
theorem dn_all {P P' : Program} {w w' : World} {h : Heap} {a : Addr} {ks : List (Option Int)} (x : h.DictOf (noneKind P w) a (ks.map dnE)) : h.DictOf (noneKind P' w') a (ks.map dnE) := by
  obtain ⟨o, es, ep, h1, h2, h3, h4, h5, h6⟩ := x
  refine ⟨o, es, ep, h1, h2, h3, fun e he => ?_, dn_pairs h5, h6⟩
  obtain ⟨k, q1, q2⟩ := h4 e he
  obtain ⟨kv, m1, m2⟩ := dn_key h5 (Array.mem_toList_iff.mpr he)
  have ek : k = kv.1 := (noneKind P w).inj _ _ _ q1 m2
  obtain ⟨j, _, ej⟩ := List.mem_map.mp m1
  refine ⟨k, q1, q2.trans ?_⟩
  rw [ek, ← ej]
  cases j <;> rfl
theorem dn_stay {a : Addr} {ks : List (Option Int)} (h1 h2 : Heap) (x : (∃ o es ep, h1.get? a = some o ∧ o.data = .dict es ep) ∧ (a == sysModules) = false ∧ ∀ (P : Program) (w : World), h1.DictOf (noneKind P w) a (ks.map dnE)) (k : ∀ o, h1.get? a = some o → h2.get? a = some o) :
    (∃ o es ep, h2.get? a = some o ∧ o.data = .dict es ep) ∧ (a == sysModules) = false ∧ ∀ (P : Program) (w : World), h2.DictOf (noneKind P w) a (ks.map dnE) := by
  obtain ⟨⟨o, es, ep, e1, e2⟩, hs, x⟩ := x
  refine ⟨⟨o, es, ep, k _ e1, e2⟩, hs, fun P w => ?_⟩
  obtain ⟨o, es, ep, h1, h⟩ := x P w
  exact ⟨o, es, ep, k _ h1, h⟩
theorem dn_ok {P : Program} {w : World} {H : Hp} {h : Heap} {a : Addr} {ks : List (Option Int)} (hs : (a == sysModules) = false) (x : h.DictOf (noneKind P w) a (ks.map dnE)) : ObjOk P w H h a (DNo a ks) := by
  obtain ⟨o, es, ep, h1, h2⟩ := id x
  exact ⟨⟨⟨o, es, ep, h1, h2.2.1⟩, hs, fun P' w' => dn_all x⟩, ⟨o, h1⟩, fun g1 g2 => dn_stay g1 g2⟩
theorem dn_of {P : Program} {w : World} {H : Hp} {h : Heap} {a : Addr} {ks : List (Option Int)} (x : ObjOk P w H h a (DNo a ks)) : (a == sysModules) = false ∧ h.DictOf (noneKind P w) a (ks.map dnE) := ⟨x.1.2.1, x.1.2.2 P w⟩
theorem none_le {F : Hp} : ∀ a o, (fun _ : Addr => (none : Option HO)) a = some o → F a = some o := by
  intro a o h
  cases (show (none : Option HO) = some o from h)
section
variable {K : PySem.W.Frag} {w w' : Wit}
theorem Reps.dropLast {ds : List D} {vs : List V} (h : Reps K w ds vs) : Reps K w ds.dropLast vs.dropLast := by
  have := h.take (ds.length - 1)
  rw [List.dropLast_eq_take, List.dropLast_eq_take, ← h.length]
  exact this
end

/-- it becomes known to all, and fixed -/
def Wit.fix (w : Wit) (H : Hp) (a : Addr) : Wit := { w with F := fun b => if b = a then H a else w.F b }
theorem Le.fix {w : Wit} {H : Hp} {a : Addr} (h : w.F a = none) : Le w (w.fix H a) :=
  ⟨fun b o e => by unfold Wit.fix; simp only; split
                   · rename_i q; rw [q, h] at e; cases e
                   · exact e, fun _ _ => rfl, Nat.le_refl _, rfl⟩
theorem Own.rep {K : PySem.W.Frag} {w : Wit} {H : Hp} {d : D} {a : Addr} (h : Own K w H d a) : Rep K (w.fix H a) d (.ref a) := by
  obtain ⟨h1, h2, h3⟩ := h
  have l := Le.fix (H := H) h1
  have fa : (w.fix H a).F a = H a := by unfold Wit.fix; simp
  cases d with
  | lst ds => obtain ⟨vs, e, r⟩ := h3; exact .lst (.inl (.inl (fa.trans e))) (r.mono l)
  | dct ds => obtain ⟨vs, e, r⟩ := h3; exact .dK (.inl (fa.trans e)) (r.mono l)
  | dtt ds => obtain ⟨vs, e, r⟩ := h3; exact .dT (fa.trans e) (r.mono l)
  | dno ds => exact .dN (fa.trans h3)
  | _ => exact h3.elim
theorem Gd.fix {K : PySem.W.Frag} {w : Wit} {H : Hp} {S : Sto} {a : Addr} (g : Gd K w H S) (h1 : w.F a = none) (h2 : ∀ n, n < w.m → w.phi n ≠ a) (h3 : ∀ ps, H a ≠ some (.tbl ps)) : Gd K (w.fix H a) H S where
  len := g.len
  sub := fun b o e => by
    unfold Wit.fix at e; simp only at e; split at e
    · rename_i q; rw [q]; exact e
    · exact g.sub b o e
  sto := fun n o e => (g.sto n o e).mono (Le.fix h1) fun _ z => z
  inj := g.inj
  nofz := fun i hi => by
    unfold Wit.fix; simp only
    rw [if_neg (h2 i hi)]
    exact g.nofz i hi
  tab := g.tab.to rfl (fun b ps e => by
    unfold Wit.fix at e; simp only at e; split at e
    · exact h3 ps e
    · exact g.tab.f b ps e) fun b o e _ => e
theorem Ext.fix {w w' : Wit} {H H' : Hp} {a : Addr} (x : Ext w H w' H') (h1 : w'.F a = none) (h2 : Nb (H a)) : Ext w H (w'.fix H' a) H' where
  le := x.le.trans (Le.fix h1)
  new := x.new
  keep := x.keep
  there := x.there
  fz := fun b hb e => by
    unfold Wit.fix; simp only
    rw [if_neg (fun q : b = a => hb.nb (by rw [q]; exact h2))]
    exact x.fz b hb e

/-! ### exceptions -/
/-! ### the state of a def's body -/
section
variable {K : PySem.W.Frag} {Z : Option XC} {ent : Ent Z} {O : List Nat} {w w' : Wit} {H H' : Hp} {σ : L2.St} {ρ : DEnv} {S S' : Sto}
/-- an own list becomes fixed -/
theorem R.drop1 (r : R K ent O w H σ ρ S) (i : Nat) (hi : i ∈ O) : ∃ w', Le w w' ∧ R K ent (O.filter (· ≠ i)) w' H σ ρ S := by
  cases e : ρ[i]? with
  | none =>
    refine ⟨w, .refl w, r.gd, r.ext, r.kn, fun j d h n => ?_, fun j d h n => r.own j d h (List.mem_filter.mp n).1, fun j k a hj hk => r.dis j k a (List.mem_filter.mp hj).1 (List.mem_filter.mp hk).1, r.len, fun z hz hi => r.exc z hz (List.mem_filter.mp hi).1, r.thk⟩
    refine r.val j d h fun hm => n (List.mem_filter.mpr ⟨hm, ?_⟩)
    simp only [ne_eq, decide_not, Bool.not_eq_eq_eq_not, Bool.not_true, decide_eq_false_iff_not]
    intro q; rw [q, e] at h; cases h
  | some o =>
    cases o with
    | none =>
      refine ⟨w, .refl w, r.gd, r.ext, r.kn, fun j d h n => ?_, fun j d h n => r.own j d h (List.mem_filter.mp n).1, fun j k a hj hk => r.dis j k a (List.mem_filter.mp hj).1 (List.mem_filter.mp hk).1, r.len, fun z hz hi => r.exc z hz (List.mem_filter.mp hi).1, r.thk⟩
      refine r.val j d h fun hm => n (List.mem_filter.mpr ⟨hm, ?_⟩)
      simp only [ne_eq, decide_not, Bool.not_eq_eq_eq_not, Bool.not_true, decide_eq_false_iff_not]
      intro q; rw [q, e] at h; cases h
    | some d0 =>
      obtain ⟨a, s1, s2, s3⟩ := r.own i d0 e hi
      have l := Le.fix (H := H) s2.1
      refine ⟨w.fix H a, l, r.gd.fix s2.1 s2.2.1 (fun ps => s2.notbl), r.ext.fix s2.1 s3, r.kn.trans l, fun j d h n => ?_, fun j d h n => ?_, fun j k a hj hk => r.dis j k a (List.mem_filter.mp hj).1 (List.mem_filter.mp hk).1, r.len, fun z hz hi hn => let ⟨h1, h2⟩ := r.exc z hz (List.mem_filter.mp hi).1 hn; ⟨h1, h2.mono l⟩, r.thk⟩
      · by_cases q : j = i
        · subst q
          rw [e] at h; cases h
          exact ⟨_, s1, s2.rep⟩
        · obtain ⟨v, h1, h2⟩ := r.val j d h fun hm => n (List.mem_filter.mpr ⟨hm, by simpa using q⟩)
          exact ⟨v, h1, h2.mono l⟩
      · obtain ⟨hm, q⟩ := List.mem_filter.mp n
        have q' : j ≠ i := by simpa using q
        obtain ⟨b, t1, t2, t3⟩ := r.own j d h hm
        have nab : b ≠ a := fun z => q' (r.dis j i b hm hi ⟨_, h⟩ ⟨_, e⟩ t1 (by rw [z]; exact s1))
        refine ⟨b, t1, ⟨?_, t2.2.1, ?_⟩, t3⟩
        · unfold Wit.fix; simp only; rw [if_neg nab]; exact t2.1
        · obtain ⟨_, _, t4⟩ := t2
          cases d with
          | lst ds => obtain ⟨vs, e, r⟩ := t4; exact ⟨vs, e, r.mono l⟩
          | dct ds => obtain ⟨vs, e, r⟩ := t4; exact ⟨vs, e, r.mono l⟩
          | dtt ds => obtain ⟨vs, e, r⟩ := t4; exact ⟨vs, e, r.mono l⟩
          | dno ds => exact t4
          | _ => exact t4.elim
/-- fewer own lists -/
theorem R.weak (r : R K ent O w H σ ρ S) (O' : List Nat) (h : ∀ i, i ∈ O' → i ∈ O) : ∃ w', Le w w' ∧ R K ent O' w' H σ ρ S := by
  have go : ∀ (L : List Nat) (O1 : List Nat) (w1 : Wit), R K ent O1 w1 H σ ρ S → (∀ i, i ∈ O' → i ∈ O1) → (∀ i, i ∈ O1 → i ∉ O' → i ∈ L) → ∃ w', Le w1 w' ∧ R K ent O' w' H σ ρ S := by
    intro L
    induction L with
    | nil =>
      intro O1 w1 r1 h1 h2
      refine ⟨w1, .refl _, r1.sub fun i => ⟨fun z => ?_, h1 i⟩⟩
      by_cases q : i ∈ O'
      · exact q
      · exact absurd (h2 i z q) (by simp)
    | cons a L ih =>
      intro O1 w1 r1 h1 h2
      by_cases q : a ∈ O1 ∧ a ∉ O'
      · obtain ⟨w2, l2, r2⟩ := r1.drop1 a q.1
        obtain ⟨w3, l3, r3⟩ := ih _ w2 r2 (fun i hi => List.mem_filter.mpr ⟨h1 i hi, by have z : i ≠ a := fun z => q.2 (z ▸ hi); simpa using z⟩) (fun i hi hn => by
          obtain ⟨u1, u2⟩ := List.mem_filter.mp hi
          rcases List.mem_cons.mp (h2 i u1 hn) with z | z
          · exact absurd z (by simpa using u2)
          · exact z)
        exact ⟨w3, l2.trans l3, r3⟩
      · refine ih O1 w1 r1 h1 fun i hi hn => ?_
        rcases List.mem_cons.mp (h2 i hi hn) with z | z
        · subst z; exact absurd ⟨hi, hn⟩ q
        · exact z
  exact go O O w r h fun i hi _ => hi
/-- a slot is stored, the value is the def's own -/
theorem R.putOwn (r : R K ent O w H σ ρ S) {i : Nat} {d : D} {a : Addr} (h : Own K w H d a) (he : Nb (ent.H a)) (hd : ∀ j, j ∈ O → j ≠ i → (∃ e, ρ[j]? = some (some e)) → σ[j]? ≠ some (some (.ref a))) :
    R K ent (i :: O) w H (σ.set i (some (.ref a))) (ρ.set i (some d)) S where
  gd := r.gd
  ext := r.ext
  kn := r.kn
  val := fun j e hj n => by
    have q : i ≠ j := fun z => n (by rw [z]; exact List.mem_cons_self)
    rw [List.getElem?_set_ne q] at hj
    obtain ⟨u, h1, h2⟩ := r.val j e hj fun z => n (List.mem_cons_of_mem _ z)
    exact ⟨u, by rw [List.getElem?_set_ne q]; exact h1, h2⟩
  own := fun j e hj n => by
    by_cases q : i = j
    · subst q
      have hl : i < ρ.length := by
        have := (List.getElem?_eq_some_iff.mp hj).1; simpa using this
      rw [List.getElem?_set_self hl] at hj; cases hj
      exact ⟨a, List.getElem?_set_self (by rw [← r.len]; exact hl), h, he⟩
    · rw [List.getElem?_set_ne q] at hj
      rcases List.mem_cons.mp n with z | z
      · exact absurd z.symm q
      · obtain ⟨u, h1, h2⟩ := r.own j e hj z
        exact ⟨u, by rw [List.getElem?_set_ne q]; exact h1, h2⟩
  dis := fun j k b hj hk ej ek sj sk => by
    by_cases q1 : i = j
    · by_cases q2 : i = k
      · exact q1.symm.trans q2
      · subst q1
        have hl : i < σ.length := by
          have := (List.getElem?_eq_some_iff.mp sj).1; simpa using this
        rw [List.getElem?_set_self hl] at sj; cases sj
        rw [List.getElem?_set_ne q2] at sk
        rcases List.mem_cons.mp hk with z | z
        · exact absurd z.symm q2
        · rw [List.getElem?_set_ne q2] at ek; exact absurd sk (hd k z (Ne.symm q2) ek)
    · rw [List.getElem?_set_ne q1] at ej sj
      have hj' : j ∈ O := (List.mem_cons.mp hj).elim (fun z => absurd z.symm q1) id
      by_cases q2 : i = k
      · subst q2
        have hl : i < σ.length := by
          have := (List.getElem?_eq_some_iff.mp sk).1; simpa using this
        rw [List.getElem?_set_self hl] at sk; cases sk
        exact absurd sj (hd j hj' (Ne.symm q1) ej)
      · rw [List.getElem?_set_ne q2] at ek sk
        exact r.dis j k b hj' ((List.mem_cons.mp hk).elim (fun z => absurd z.symm q2) id) ej ek sj sk
  len := by simpa using r.len
  exc := fun z hz hj hn => by
    by_cases q : i = z.i
    · have hl : i < ρ.length := by
        have := (List.getElem?_eq_some_iff.mp hn).1
        rw [q]; simpa using this
      rw [← q, List.getElem?_set_self hl] at hn; cases hn
    · rw [List.getElem?_set_ne q] at hn ⊢
      exact r.exc z hz ((List.mem_cons.mp hj).elim (fun e => absurd e.symm q) id) hn
  thk := r.thk
end
section
variable {K : PySem.W.Frag} {w : Wit} {H : Hp} {S : Sto} {a : Addr} {o : HO}
theorem Ext.newF (g : Gd K w H S) (h : H a = none) : Ext w H (w.new a o) (upd H a o) where
  le := Le.new (g.noneF h)
  new := fun k h q => absurd q (Nat.not_lt.mpr h)
  keep := fun b u e => .inr (by rw [upd_ne (fun q => by rw [q, h] at e; cases e)]; exact e)
  there := fun b hb => by
    by_cases q : b = a
    · subst q; exact .inl h
    · rw [upd_ne q] at hb; exact hb
  fz := fun b hb e => by
    have ne : b ≠ a := fun q => hb.ne (by rw [q]; exact h)
    refine ⟨?_, by rw [upd_ne ne]; exact hb⟩
    show L2.upd w.F a o b = none
    rw [upd_ne ne]; exact e
/-- a new object, nobody's -/
theorem Gd.newO (g : Gd K w H S) (h : H a = none) : Gd K w (upd H a o) S where
  len := g.len
  sub := fun b u e => by
    rw [upd_ne (fun q => by rw [q, g.noneF h] at e; cases e)]; exact g.sub b u e
  sto := fun n u e => (g.sto n u e).mono (.refl w) fun z hz => by
    rw [upd_ne (fun q => by rw [q, h] at hz; cases hz)]; exact hz
  inj := g.inj
  nofz := g.nofz
  tab := g.tab.to rfl g.tab.f fun b u e _ => by rw [upd_ne (fun q => by rw [q, h] at e; cases e)]; exact e
theorem Ext.newO (w : Wit) (h : H a = none) : Ext w H w (upd H a o) where
  le := .refl w
  new := fun k h q => absurd q (Nat.not_lt.mpr h)
  keep := fun b u e => .inr (by rw [upd_ne (fun q => by rw [q, h] at e; cases e)]; exact e)
  there := fun b hb => by
    by_cases q : b = a
    · subst q; exact .inl h
    · rw [upd_ne q] at hb; exact hb
  fz := fun b hb e => ⟨e, by rw [upd_ne (fun q => hb.ne (by rw [q]; exact h))]; exact hb⟩
end
end DL

/-! the judgements of the data layer -/
namespace DL
open PySem PySem.Spec PyProof.Rows L2

def KP (K : PySem.W.Frag) (k : Kd) (H : Hp) (w' : Wit) (H' : Hp) (d : D) (v : V) : Prop := match k with
  | .e => Rep K w' d v
  | .b => Rep K w' d v ∨ ∃ a, v = .ref a ∧ Own K w' H' d a
  | .f => ∃ a, v = .ref a ∧ Nb (H a) ∧ Own K w' H' d a
theorem KP.b {K : PySem.W.Frag} {H : Hp} {w' : Wit} {H' : Hp} {d : D} {v : V} : ∀ {k : Kd}, KP K k H w' H' d v → KP K .b H w' H' d v
  | .e, h => .inl h
  | .b, h => h
  | .f, ⟨a, e, _, h⟩ => .inr ⟨a, e, h⟩
theorem KP.later {K : PySem.W.Frag} {w w1 w' : Wit} {H H1 H' : Hp} {d : D} {v : V} (x : Ext w H w1 H1) : ∀ {k : Kd}, KP K k H1 w' H' d v → KP K k H w' H' d v
  | .e, h => h
  | .b, h => h
  | .f, ⟨a, e, n, h⟩ => ⟨a, e, x.there a n, h⟩

/-- what must hold behind an expression that comes to r -/
def Post (K : PySem.W.Frag) (k : Kd) (w : Wit) (H : Hp) (W : WZ) (σ : L2.St) (r : Res) (Q : VK) : Prop := match r with
  | .ok d S => ∀ v H' w', Ext w H w' H' → Gd K w' H' S → KP K k H w' H' d v → Q v H'
  | .exn x S => ∀ cls dx H' w', Ext w H w' H' → Gd K w' H' S → RepX K w' H' x cls dx → W.wx cls dx σ H'
  | .stuck => False
section
variable {K : PySem.W.Frag} {k : Kd} {w w1 : Wit} {H H1 : Hp} {W : WZ} {σ : L2.St} {r : Res} {Q Q' : VK}
theorem Post.later (x : Ext w H w1 H1) (p : Post K k w H W σ r Q) : Post K k w1 H1 W σ r Q := by
  cases r with
  | ok d S => exact fun v H' w' y g h => p v H' w' (x.trans y) g (h.later x)
  | exn e S => exact fun cls dx H' w' y g h => p cls dx H' w' (x.trans y) g h
  | stuck => exact p
theorem Post.imp (p : Post K k w H W σ r Q) (h : ∀ v H', Q v H' → Q' v H') : Post K k w H W σ r Q' := by
  cases r with
  | ok d S => exact fun v H' w' y g z => h _ _ (p v H' w' y g z)
  | exn e S => exact p
  | stuck => exact p
/-- new things may be known to all -/
theorem Post.fOfE (p : Post K .e w H W σ r Q) : Post K .f w H W σ r Q := by
  cases r with
  | ok d S =>
    rintro v H' w' y g ⟨a, rfl, n, o⟩
    exact p _ H' (w'.fix H' a) (y.fix o.1 n) (g.fix o.1 o.2.1 fun _ => o.notbl) o.rep
  | exn e S => exact p
  | stuck => exact p
/-- the first of two -/
theorem Post.bind {k1 : Kd} {f : D → Sto → Res} {Q1 : VK} (p : Post K k w H W σ (r.bind f) Q)
    (c : ∀ d S1 v H1 w1, Ext w H w1 H1 → Gd K w1 H1 S1 → KP K k1 H w1 H1 d v → Post K k w1 H1 W σ (f d S1) Q → Q1 v H1) : Post K k1 w H W σ r Q1 := by
  cases r with
  | ok d S => exact fun v H' w' y g z => c d S v H' w' y g z (p.later y)
  | exn e S => exact p
  | stuck => exact p
end

/-- the reading of an expression -/
def rd (K : PySem.W.Frag) (k : Kd) (W : WZ) (O : List Nat) (f : EF) : TE := fun σ H Q => ∃ (ent : Ent W.xc) (w : Wit) (ρ : DEnv) (S : Sto), R K ent O w H σ ρ S ∧ Post K k w H W σ (f ρ S) Q
structure DE (k : Kd) (X : Cx) (W : WZ) (O : List Nat) (e : Expr) (f : EF) : Prop where
  pe : PE X e (rd X.K k W O f)
/-- what the invariant knows of sizes -/
def Sz (K : PySem.W.Frag) (H : Hp) : Prop := ∀ a vs, SqL K H a vs ∨ SqT K H a vs → vs.length ≤ sizeLine
theorem _root_.L2.Inv.szs {X : Cx} {pins : List (Addr × Obj)} {σ : L2.St} {H : Hp} {s : Shared} (I : Inv X pins σ H s) : Sz X.K H := fun a vs h => by
  rcases h with h | h
  · obtain ⟨_, _, _, z⟩ := I.list h; exact z
  · obtain ⟨_, _, _, z⟩ := I.tuple h; exact z
theorem _root_.L2.PE.sz {X : Cx} {e : Expr} {t : TE} (h : PE X e t) : PE X e (fun σ H Q => t σ H fun v H' => Sz X.K H' → Q v H') :=
  ⟨fun pins s σ H Q I q => thn (h.run pins s σ H _ I q) fun u s' ⟨v, H', I', r, z⟩ => ⟨v, H', I', r, z I'.szs⟩⟩
section
variable {X : Cx} {W : WZ} {O : List Nat} {e : Expr} {f : EF} {k : Kd}
theorem DE.toE (h : DE .f X W O e f) : DE .e X W O e f := ⟨h.pe.imp fun σ H Q ⟨ent, w, ρ, S, r, p⟩ => ⟨ent, w, ρ, S, r, p.fOfE⟩⟩
end

/-! ### names, constants -/
section
variable {X : Cx} {W : WZ} {O : List Nat}
theorem dv (i : Nat) {x : Str} {pos : Pos} (hO : i ∉ O := by decide) (hN : X.N[i]? = some x := by rfl) (hv : Vis X.env.scope x := by first | exact Or.inl rfl | exact Or.inr (Or.inl rfl) | exact Or.inr (Or.inr rfl)) (hd : (x == ("__debug__" : Str)) = false := by decide)
    (hcd : (x == ("__classdict__" : Str)) = false := by decide) : DE .e X W O (.Name x pos) (eVar i) := by
  refine ⟨(pe_var hN hv hd hcd).imp fun σ H Q ⟨ent, w, ρ, S, r, p⟩ => ?_⟩
  unfold eVar at p
  cases h : ρ[i]? with
  | none => rw [h] at p; exact p.elim
  | some o => cases o with
    | none => rw [h] at p; exact p.elim
    | some d =>
      rw [h] at p
      obtain ⟨v, e, q⟩ := r.val i d h hO
      exact ⟨v, e, p v H w (.refl _ _) r.gd q⟩
/-- seen only: it may be the def's own -/
theorem dvb (i : Nat) {x : Str} {pos : Pos} (hN : X.N[i]? = some x := by rfl) (hv : Vis X.env.scope x := by first | exact Or.inl rfl | exact Or.inr (Or.inl rfl) | exact Or.inr (Or.inr rfl)) (hd : (x == ("__debug__" : Str)) = false := by decide)
    (hcd : (x == ("__classdict__" : Str)) = false := by decide) : DE .b X W O (.Name x pos) (eVar i) := by
  refine ⟨(pe_var hN hv hd hcd).imp fun σ H Q ⟨ent, w, ρ, S, r, p⟩ => ?_⟩
  unfold eVar at p
  cases h : ρ[i]? with
  | none => rw [h] at p; exact p.elim
  | some o => cases o with
    | none => rw [h] at p; exact p.elim
    | some d =>
      rw [h] at p
      by_cases hO : i ∈ O
      · obtain ⟨a, e, q, _⟩ := r.own i d h hO
        exact ⟨_, e, p _ H w (.refl _ _) r.gd (.inr ⟨a, rfl, q⟩)⟩
      · obtain ⟨v, e, q⟩ := r.val i d h hO
        exact ⟨v, e, p v H w (.refl _ _) r.gd (.inl q)⟩
theorem rd_const {K : PySem.W.Frag} {d : D} {v : V} (h : ∀ w, Rep K w d v) : ∀ σ H Q, rd K .e W O (eC d) σ H Q → tC v σ H Q := fun σ H Q ⟨ent, w, ρ, S, r, p⟩ => p v H w (.refl _ _) r.gd (h w)
theorem de_int {i j pos} : DE .e X W O (.Constant (.int i) j pos) (eC (.int i)) := ⟨pe_int.imp (rd_const fun _ => .int i)⟩
theorem de_bl {i j pos} : DE .e X W O (.Constant (.bool i) j pos) (eC (.bl i)) := ⟨pe_bl.imp (rd_const fun _ => .bl i)⟩
theorem de_non {j pos} : DE .e X W O (.Constant .none j pos) (eC .non) := ⟨pe_non.imp (rd_const fun _ => .non)⟩
theorem de_str {i j pos} : DE .e X W O (.Constant (.str i) j pos) (eC (.str i)) := ⟨pe_str.imp (rd_const fun _ => .str i)⟩
/-- a module's constant -/
theorem de_glob {x : Str} {v : V} {u : Value} {d : D} {pos : Pos} (hm : X.mg x = some u) (r : RelV v u) (h : ∀ w, Rep X.K w d v) (hg : Gl X x := by rfl) (hd : (x == ("__debug__" : Str)) = false := by decide) : DE .e X W O (.Name x pos) (eC d) :=
  ⟨(pe_glob hg hm r hd).imp (rd_const h)⟩
end

/-! ### things seen -/
@[simp] theorem deref_non (S : Sto) : deref S .non = .non := rfl
@[simp] theorem deref_bl (S : Sto) (b : Bool) : deref S (.bl b) = .bl b := rfl
@[simp] theorem deref_int (S : Sto) (b : Int) : deref S (.int b) = .int b := rfl
@[simp] theorem deref_str (S : Sto) (b : Str) : deref S (.str b) = .str b := rfl
@[simp] theorem deref_tup (S : Sto) (b : List D) : deref S (.tup b) = .tup b := rfl
@[simp] theorem deref_ctp (S : Sto) (b : List D) : deref S (.ctp b) = .ctp b := rfl
@[simp] theorem deref_lst (S : Sto) (b : List D) : deref S (.lst b) = .lst b := rfl
@[simp] theorem deref_dct (S : Sto) (b : List (D × D)) : deref S (.dct b) = .dct b := rfl
@[simp] theorem deref_dtt (S : Sto) (b : List (D × D)) : deref S (.dtt b) = .dtt b := rfl
@[simp] theorem deref_ins (S : Sto) (c : Str) (b : List (Str × D)) : deref S (.ins c b) = .ins c b := rfl
/-- what is seen at v: the top of it as it stands in the heap -/
inductive Vw (K : PySem.W.Frag) (w : Wit) (H : Hp) : D → V → Prop
  | non : Vw K w H .non .non
  | bl (b : Bool) : Vw K w H (.bl b) (.bl b)
  | int (i : Int) : Vw K w H (.int i) (.int i)
  | str (x : Str) : Vw K w H (.str x) (.str x)
  | tup {a : Addr} {vs : List V} {ds : List D} (h : w.F a = some (.tup vs)) (r : Reps K w ds vs) : Vw K w H (.tup ds) (.ref a)
  | ctp {a : Addr} {vs : List V} {ds : List D} (h : SqT K (fun _ => none) a vs) (r : Reps K w ds vs) : Vw K w H (.ctp ds) (.ref a)
  | lst {a : Addr} {vs : List V} {ds : List D} (h : SqL K H a vs) (r : Reps K w ds vs) : Vw K w H (.lst ds) (.ref a)
  | dK {a : Addr} {vs : List (Key × V)} {ds : List (D × D)} (h : Rd H a (.dK vs)) (r : RepK K w ds vs) : Vw K w H (.dct ds) (.ref a)
  | dT {a : Addr} {vs : List (List Key × V)} {ds : List (D × D)} (h : H a = some (.dT vs)) (r : RepT K w ds vs) : Vw K w H (.dtt ds) (.ref a)
  | ins {a dx : Addr} {c : Str} {fs : List (Str × D)} {vs : List (Str × V)} (h : H a = some (.ins (He.ga K c) dx vs)) (r : RepF K w fs vs) : Vw K w H (.ins c fs) (.ref a)
  | obj {n : Nat} (h : n < w.m) : Vw K w H (.obj n) (.ref (w.phi n))
  | cls (c : Str) : Vw K w H (.cls c) (.ref (He.ga K c))
  | dN {a : Addr} {ks : List (Option Int)} (h : H a = some (DNo a ks)) : Vw K w H (.dno ks) (.ref a)
theorem KP.vw {K : PySem.W.Frag} {w : Wit} {H0 H : Hp} {S : Sto} {d : D} {v : V} {k : Kd} (g : Gd K w H S) (h0 : KP K k H0 w H d v) : Vw K w H (deref S d) v := by
  rcases (h0.b : KP K .b H0 w H d v) with h | ⟨a, rfl, h⟩
  · cases h with
    | non => exact .non
    | bl b => exact .bl b
    | int b => exact .int b
    | str b => exact .str b
    | tup h r => exact .tup h r
    | ctp h r => exact .ctp h r
    | lst h r => exact .lst (SqL.monoF g.sub h) r
    | dK h r => exact .dK (h.imp (g.sub _ _) fun ⟨o, e⟩ => ⟨o, g.sub _ _ e⟩) r
    | dT h r => exact .dT (g.sub _ _ h) r
    | ins h r => exact .ins (g.sub _ _ h) r
    | @obj n h =>
      unfold deref
      simp only
      cases e : S[n]? with
      | none => exact .obj h
      | some o =>
        have q := g.sto n o e
        cases o with
        | lst ds => obtain ⟨vs, e, r⟩ := q; exact .lst (.inl (.inl e)) r
        | dct ds => obtain ⟨vs, e, r⟩ := q; exact .dK (.inl e) r
        | dtt ds => obtain ⟨vs, e, r⟩ := q; exact .dT e r
        | ins c fs => obtain ⟨dx, vs, e, r⟩ := q; exact .ins e r
    | cls c => exact .cls c
    | dN h => exact .dN (g.sub _ _ h)
  · obtain ⟨_, _, h⟩ := h
    cases d with
    | lst ds => obtain ⟨vs, e, r⟩ := h; exact .lst (.inl (.inl e)) r
    | dct ds => obtain ⟨vs, e, r⟩ := h; exact .dK (.inl e) r
    | dtt ds => obtain ⟨vs, e, r⟩ := h; exact .dT e r
    | dno ds => exact .dN h
    | _ => exact h.elim
theorem KP.ext {K : PySem.W.Frag} {w w' : Wit} {H0 H1 H H' : Hp} {d : D} {v : V} {k : Kd} (h0 : KP K k H0 w H d v) (x : Ext w H w' H') : KP K .b H1 w' H' d v := by
  rcases (h0.b : KP K .b H0 w H d v) with h | ⟨a, rfl, h⟩
  · exact .inl (h.mono x.le)
  · exact .inr ⟨a, rfl, h.ext x⟩

/-! ### operators on one, two things; calls -/
/-- g of one thing -/
def r1 (K : PySem.W.Frag) (k : Kd) (g : D → Option D) : V → Hp → VK → Prop := fun x H Q => ∃ w S d1 d, Gd K w H S ∧ KP K .b H w H d1 x ∧ g (deref S d1) = some d ∧ ∀ v H' w', Ext w H w' H' → Gd K w' H' S → KP K k H w' H' d v → Q v H'
def r2 (K : PySem.W.Frag) (k : Kd) (g : D → D → Option D) : R2 := fun x y H Q => ∃ w S d1 d2 d, Gd K w H S ∧ KP K .b H w H d1 x ∧ KP K .b H w H d2 y ∧ g (deref S d1) (deref S d2) = some d ∧ ∀ v H' w', Ext w H w' H' → Gd K w' H' S → KP K k H w' H' d v → Q v H'
inductive KPs (K : PySem.W.Frag) (w : Wit) (H : Hp) : List D → List V → Prop
  | nil : KPs K w H [] []
  | cons {d : D} {v : V} {ds : List D} {vs : List V} (h : KP K .b H w H d v) (t : KPs K w H ds vs) : KPs K w H (d :: ds) (v :: vs)
def rN (K : PySem.W.Frag) (k : Kd) (g : List D → Option D) : List V → Hp → VK → Prop := fun xs H Q => ∃ w S ds d, Gd K w H S ∧ KPs K w H ds xs ∧ g (ds.map (deref S)) = some d ∧ ∀ v H' w', Ext w H w' H' → Gd K w' H' S → KP K k H w' H' d v → Q v H'

section
variable {X : Cx} {W : WZ} {O : List Nat} {a b : Expr} {fa fb : EF} {k ka kb : Kd}
theorem tUn_of {K : PySem.W.Frag} {g : D → Option D} : ∀ σ H Q, rd K k W O (e1 g fa) σ H Q → tUn (r1 K k g) (rd K ka W O fa) σ H Q := by
  rintro σ H Q ⟨ent, w, ρ, S, r, p⟩
  refine ⟨ent, w, ρ, S, r, p.bind fun d S1 v H1 w1 x g1 z p1 => ?_⟩
  cases e : g (deref S1 d) with
  | none => rw [e] at p1; exact p1.elim
  | some d' => rw [e] at p1; exact ⟨w1, S1, d, d', g1, z.ext (.refl _ _), e, p1⟩
theorem tOp_of {K : PySem.W.Frag} {g : D → D → Option D} : ∀ σ H Q, rd K k W O (e2 g fa fb) σ H Q → tOp (r2 K k g) (rd K ka W O fa) (rd K kb W O fb) σ H Q := by
  rintro σ H Q ⟨ent, w, ρ, S, r, p⟩
  refine ⟨ent, w, ρ, S, r, p.bind fun d S1 v H1 w1 x g1 z p1 => ?_⟩
  refine ⟨ent, w1, ρ, S1, r.later x g1, p1.bind fun d2 S2 v2 H2 w2 x2 g2 z2 p2 => ?_⟩
  cases e : g (deref S2 d) (deref S2 d2) with
  | none => rw [e] at p2; exact p2.elim
  | some d' => rw [e] at p2; exact ⟨w2, S2, d, d2, d', g2, z.ext x2, z2.ext (.refl _ _), e, p2⟩
theorem de_bin {op : Operator} {g : D → D → Option D} {pos : Pos} (ho : OpR X (binaryOp op) (r2 X.K k g)) (ha : DE ka X W O a fa) (hb : DE kb X W O b fb) : DE k X W O (.BinOp a op b pos) (e2 g fa fb) := ⟨(pe_op ho ha.pe hb.pe).imp tOp_of⟩
theorem de_un {op : UnaryOp} {g : D → Option D} {pos : Pos} (ho : UnR X (unaryOp op) (r1 X.K k g)) (ha : DE ka X W O a fa) : DE k X W O (.UnaryOp op a pos) (e1 g fa) := ⟨(pe_un ho ha.pe).imp tUn_of⟩
theorem de_cmp {op : CmpOp} {g : D → D → Option D} {pos : Pos} (ho : OpR X (compareOp op) (r2 X.K .e g)) (ha : DE ka X W O a fa) (hb : DE kb X W O b fb) (hm : behindInMarks op b = false := by first | exact nomark _ | rfl) : DE .e X W O (.Compare a [op] [b] pos) (e2 g fa fb) := ⟨(pe_cmpR ho ha.pe hb.pe hm).imp tOp_of⟩
end

/-! ### argument lists -/
/-- known to all, one by one -/
def PostA (K : PySem.W.Frag) (P : Wit → Hp → List D → List V → Prop) (w : Wit) (H : Hp) (W : WZ) (σ : L2.St) (r : Ress) (Q : List V → Hp → Prop) : Prop := match r with
  | .ok ds S => ∀ vs H' w', Ext w H w' H' → Gd K w' H' S → P w' H' ds vs → Q vs H'
  | .exn x S => ∀ cls dx H' w', Ext w H w' H' → Gd K w' H' S → RepX K w' H' x cls dx → W.wx cls dx σ H'
  | .stuck => False
theorem PostA.later {K : PySem.W.Frag} {P : Wit → Hp → List D → List V → Prop} {w w1 : Wit} {H H1 : Hp} {W : WZ} {σ : L2.St} {r : Ress} {Q : List V → Hp → Prop} (x : Ext w H w1 H1) (p : PostA K P w H W σ r Q) : PostA K P w1 H1 W σ r Q := by
  cases r with
  | ok d S => exact fun v H' w' y g h => p v H' w' (x.trans y) g h
  | exn e S => exact fun cls dx H' w' y g h => p cls dx H' w' (x.trans y) g h
  | stuck => exact p
abbrev PRep (K : PySem.W.Frag) : Wit → Hp → List D → List V → Prop := fun w _ ds vs => Reps K w ds vs
abbrev PKP (K : PySem.W.Frag) : Wit → Hp → List D → List V → Prop := fun w H ds vs => KPs K w H ds vs
def rdA (K : PySem.W.Frag) (P : Wit → Hp → List D → List V → Prop) (W : WZ) (O : List Nat) (f : AF) : TA := fun σ H Q => ∃ (ent : Ent W.xc) (w : Wit) (ρ : DEnv) (S : Sto), R K ent O w H σ ρ S ∧ PostA K P w H W σ (f ρ S) Q
/-- arguments known to all -/
structure DA (X : Cx) (W : WZ) (O : List Nat) (es : List Expr) (f : AF) : Prop where
  pa : PA X es (rdA X.K (PRep X.K) W O f)
/-- arguments seen -/
structure DAb (X : Cx) (W : WZ) (O : List Nat) (es : List Expr) (f : AF) : Prop where
  pa : PA X es (rdA X.K (PKP X.K) W O f)
section
variable {X : Cx} {W : WZ} {O : List Nat} {e : Expr} {es : List Expr} {f : EF} {g : AF} {k : Kd}
theorem da_nil : DA X W O [] aNil := ⟨pa_nil.imp fun σ H Q ⟨ent, w, ρ, S, r, p⟩ => p [] H w (.refl _ _) r.gd .nil⟩
theorem dab_nil : DAb X W O [] aNil := ⟨pa_nil.imp fun σ H Q ⟨ent, w, ρ, S, r, p⟩ => p [] H w (.refl _ _) r.gd .nil⟩
theorem KPs.ext {K : PySem.W.Frag} {w w' : Wit} {H H' : Hp} {ds : List D} {vs : List V} (h : KPs K w H ds vs) (x : Ext w H w' H') : KPs K w' H' ds vs := by
  induction h with
  | nil => exact .nil
  | cons h t ih => exact .cons (h.ext x) ih
theorem aCons_post {P1 : D → V → Wit → Hp → Prop} {P : Wit → Hp → List D → List V → Prop} (hP : ∀ d v w1 H1 w2 H2 ds vs, Ext w1 H1 w2 H2 → P1 d v w1 H1 → P w2 H2 ds vs → P w2 H2 (d :: ds) (v :: vs))
    (hk : ∀ d v H0 w1 H1, KP X.K k H0 w1 H1 d v → P1 d v w1 H1) :
    ∀ σ H Q, rdA X.K P W O (aCons f g) σ H Q → tCons (rd X.K k W O f) (rdA X.K P W O g) σ H Q := by
  rintro σ H Q ⟨ent, w, ρ, S, r, p⟩
  refine ⟨ent, w, ρ, S, r, ?_⟩
  unfold aCons at p
  cases e1 : f ρ S with
  | stuck => rw [e1] at p; exact p
  | exn x S1 => rw [e1] at p; exact p
  | ok d S1 =>
    rw [e1] at p
    refine fun v H1 w1 x1 g1 z1 => ⟨ent, w1, ρ, S1, r.later x1 g1, ?_⟩
    dsimp only at p
    cases e2 : g ρ S1 with
    | stuck => rw [e2] at p; exact p
    | exn x S2 => rw [e2] at p; exact fun cls dx H' w' y g' h => p cls dx H' w' (x1.trans y) g' h
    | ok ds S2 =>
      rw [e2] at p
      exact fun vs H2 w2 x2 g2 z2 => p (v :: vs) H2 w2 (x1.trans x2) g2 (hP d v w1 H1 w2 H2 ds vs x2 (hk d v _ w1 H1 z1) z2)
theorem da_cons (ha : DE .e X W O e f) (hr : DA X W O es g) (hs : starEach (e :: es) X.env = (false, eval e X.env) :: starEach es X.env := by rfl) : DA X W O (e :: es) (aCons f g) :=
  ⟨(pa_cons ha.pe hr.pa hs).imp (aCons_post (P1 := fun d v w H => Rep X.K w d v) (fun d v w1 H1 w2 H2 ds vs x h t => Reps.cons (h.mono x.le) t) fun d v H0 w1 H1 z => z)⟩
theorem dab_cons (ha : DE k X W O e f) (hr : DAb X W O es g) (hs : starEach (e :: es) X.env = (false, eval e X.env) :: starEach es X.env := by rfl) : DAb X W O (e :: es) (aCons f g) :=
  ⟨(pa_cons ha.pe hr.pa hs).imp (aCons_post (P1 := fun d v w H => KP X.K .b H w H d v) (fun d v w1 H1 w2 H2 ds vs x h t => KPs.cons (h.ext x) t) fun d v H0 w1 H1 z => z.ext (.refl _ _))⟩
end
section
variable {X : Cx} {W : WZ} {O : List Nat} {e : Expr} {es : List Expr} {f : EF} {fa : AF} {k : Kd}
theorem tCB_of {K : PySem.W.Frag} {g : List D → Option D} : ∀ σ H Q, rd K k W O (eN g fa) σ H Q → tCB (rN K k g) (rdA K (PKP K) W O fa) σ H Q := by
  rintro σ H Q ⟨ent, w, ρ, S, r, p⟩
  refine ⟨ent, w, ρ, S, r, ?_⟩
  unfold eN at p
  cases e1 : fa ρ S with
  | stuck => rw [e1] at p; exact p
  | exn x S1 => rw [e1] at p; exact p
  | ok ds S1 =>
    rw [e1] at p
    refine fun vs H1 w1 x1 g1 z1 => ?_
    have p : Post K k w H W σ (.ofOpt (g (ds.map (deref S1))) S1) Q := p
    cases e2 : g (ds.map (deref S1)) with
    | none => rw [e2] at p; exact p.elim
    | some d => rw [e2] at p; exact ⟨w1, S1, ds, d, g1, z1, e2, Post.later (r := .ok d S1) x1 p⟩
theorem de_callB {id : String} {g : List D → Option D} {x : Str} {p pos : Pos} (hc : CallR X (.builtin id) (rN X.K k g)) (hv : bootBuiltins x = some (.builtin id)) (hm : X.mg x = none) (ha : DAb X W O (e :: es) fa) (hg : Gl X x := by rfl) (hn : x ≠ "__name__" := by decide) (hdb : (x == ("__debug__" : Str)) = false := by decide)
    (hs : starEach (e :: es) X.env = (false, eval e X.env) :: starEach es X.env := by rfl) (hpl : (backTo pos (starEach es X.env)).any (·.1) = false := by rfl) : DE k X W O (.Call (.Name x p) (e :: es) [] pos) (eN g fa) := ⟨(pe_callB hc hg hm hv ha.pa hn hdb hs hpl).imp tCB_of⟩
theorem de_callTy {T : String} {g : List D → Option D} {x : Str} {p pos : Pos} (hc : CallR X (.type T) (rN X.K k g)) (hv : bootBuiltins x = some (.type T)) (hm : X.mg x = none) (ha : DAb X W O (e :: es) fa) (hg : Gl X x := by rfl) (hn : x ≠ "__name__" := by decide) (hdb : (x == ("__debug__" : Str)) = false := by decide)
    (hs : starEach (e :: es) X.env = (false, eval e X.env) :: starEach es X.env := by rfl) (hpl : (backTo pos (starEach es X.env)).any (·.1) = false := by rfl) : DE k X W O (.Call (.Name x p) (e :: es) [] pos) (eN g fa) := ⟨(pe_callTy hc hg hm hv ha.pa hn hdb hs hpl).imp tCB_of⟩
end
end DL

/-! tests, statements, loops, comprehensions, defs -/
namespace DL
open PySem PySem.Spec PyProof.Rows L2

/-! ### tests -/
def PostT (K : PySem.W.Frag) (w : Wit) (H : Hp) (W : WZ) (σ : L2.St) (r : Res) (Q : Bool → Hp → Prop) : Prop := match r with
  | .ok d S => ∃ b, d = .bl b ∧ ∀ H' w', Ext w H w' H' → Gd K w' H' S → Q b H'
  | .exn x S => ∀ cls dx H' w', Ext w H w' H' → Gd K w' H' S → RepX K w' H' x cls dx → W.wx cls dx σ H'
  | .stuck => False
section
variable {K : PySem.W.Frag} {k : Kd} {w w1 : Wit} {H H1 : Hp} {W : WZ} {σ : L2.St} {r : Res} {Q : Bool → Hp → Prop}
theorem PostT.later (x : Ext w H w1 H1) (p : PostT K w H W σ r Q) : PostT K w1 H1 W σ r Q := by
  cases r with
  | ok d S => obtain ⟨b, e, p⟩ := p; exact ⟨b, e, fun H' w' y g => p H' w' (x.trans y) g⟩
  | exn e S => exact fun cls dx H' w' y g h => p cls dx H' w' (x.trans y) g h
  | stuck => exact p
theorem KP.bool {H' : Hp} {w' : Wit} {b : Bool} {v : V} (h : KP K k H w' H' (.bl b) v) : v = .bl b := by
  rcases (h.b : KP K .b H w' H' (.bl b) v) with h | ⟨a, _, h⟩
  · cases h; rfl
  · exact h.2.2.elim
theorem PostT.val (p : PostT K w H W σ r Q) : Post K k w H W σ r (fun v H' => ∃ b, v = .bl b ∧ Q b H') := by
  cases r with
  | ok d S => obtain ⟨b, rfl, p⟩ := p; exact fun v H' w' y g z => ⟨b, z.bool, p H' w' y g⟩
  | exn e S => exact p
  | stuck => exact p
end
def rdT (K : PySem.W.Frag) (W : WZ) (O : List Nat) (f : EF) : TT := fun σ H Q => ∃ (ent : Ent W.xc) (w : Wit) (ρ : DEnv) (S : Sto), R K ent O w H σ ρ S ∧ PostT K w H W σ (f ρ S) Q
structure DT (X : Cx) (W : WZ) (O : List Nat) (e : Expr) (f : EF) : Prop where
  pt : PT X e (rdT X.K W O f)
structure DW (X : Cx) (W : WZ) (O : List Nat) (e : Expr) (f : EF) : Prop where
  pw : PW X e (rdT X.K W O f)
theorem rdT_val {K : PySem.W.Frag} {W : WZ} {O : List Nat} {f : EF} {k : Kd} : ∀ σ H Q, rdT K W O f σ H Q → rd K k W O f σ H (fun v H' => ∃ b, v = .bl b ∧ Q b H') :=
  fun σ H Q ⟨ent, w, ρ, S, r, p⟩ => ⟨ent, w, ρ, S, r, p.val⟩

theorem PostT.bind {K : PySem.W.Frag} {w : Wit} {H : Hp} {W : WZ} {σ : L2.St} {r : Res} {f : D → Sto → Res} {Q : Bool → Hp → Prop} {Q1 : Bool → Hp → Prop} (p : PostT K w H W σ (r.bind f) Q)
    (hs : ∀ d S, f d S ≠ .stuck → ∃ b, d = .bl b) (c : ∀ b S1 H1 w1, Ext w H w1 H1 → Gd K w1 H1 S1 → PostT K w1 H1 W σ (f (.bl b) S1) Q → Q1 b H1) : PostT K w H W σ r Q1 := by
  cases r with
  | ok d S =>
    have h : f d S ≠ .stuck := fun q => by
      have p' : PostT K w H W σ (f d S) Q := p
      rw [q] at p'; exact p'
    obtain ⟨b, rfl⟩ := hs d S h
    exact ⟨b, rfl, fun H' w' y g => c b S H' w' y g (PostT.later y p)⟩
  | exn e S => exact p
  | stuck => exact p
theorem Post.bindT {K : PySem.W.Frag} {k : Kd} {w : Wit} {H : Hp} {W : WZ} {σ : L2.St} {r : Res} {f : D → Sto → Res} {Q : VK} {Q1 : Bool → Hp → Prop} (p : Post K k w H W σ (r.bind f) Q)
    (hs : ∀ d S, f d S ≠ .stuck → ∃ b, d = .bl b) (c : ∀ b S1 H1 w1, Ext w H w1 H1 → Gd K w1 H1 S1 → Post K k w1 H1 W σ (f (.bl b) S1) Q → Q1 b H1) : PostT K w H W σ r Q1 := by
  cases r with
  | ok d S =>
    have h : f d S ≠ .stuck := fun q => by
      have p' : Post K k w H W σ (f d S) Q := p
      rw [q] at p'; exact p'
    obtain ⟨b, rfl⟩ := hs d S h
    exact ⟨b, rfl, fun H' w' y g => c b S H' w' y g (Post.later y p)⟩
  | exn e S => exact p
  | stuck => exact p
section
variable {X : Cx} {W : WZ} {O : List Nat} {a b : Expr} {rest : List Expr} {fa fb fc : EF} {k ka kb : Kd} {pos : Pos}
/-- a comparison as a test -/
theorem dt_cmp {op : CmpOp} {g : D → D → Option D} (ho : OpR X (compareOp op) (r2 X.K .e g)) (ha : DE ka X W O a fa) (hb : DE kb X W O b fb) (hm : behindInMarks op b = false := by first | exact nomark _ | rfl) : DT X W O (.Compare a [op] [b] pos) (e2 g fa fb) :=
  ⟨(pt_cmpR ho ha.pe hb.pe hm).imp fun σ H Q h => tOp_of (k := .e) σ H _ (rdT_val (k := .e) σ H Q h)⟩
/-- any expression that comes to a bool -/
theorem dt_val (ha : DE k X W O a fa) (he : ∀ whole, isTrue a X.env whole = (do let v ← whole; standAt a.pos; holding [v] (truthy v)) := by intro _; rfl) : DT X W O a fa :=
  ⟨(pt_val ha.pe he).imp fun σ H Q h => rdT_val (k := k) σ H Q h⟩
theorem dt_bool (h : DW X W O a fa) : DT X W O a fa := ⟨h.pw.pt⟩
theorem dw_and1 (ha : DT X W O a fa) : DW X W O (.BoolOp .And [a] pos) fa := ⟨pw_and1 ha.pt⟩
theorem dw_or1 (ha : DT X W O a fa) : DW X W O (.BoolOp .Or [a] pos) fa := ⟨pw_or1 ha.pt⟩
theorem and_bool {fb : EF} {ρ : DEnv} : ∀ (d : D) (S : Sto), (match d with | .bl true => fb ρ S | .bl false => Res.ok (.bl false) S | _ => Res.stuck) ≠ Res.stuck → ∃ b, d = .bl b := fun d S h => by
  cases d with
  | bl b => exact ⟨b, rfl⟩
  | _ => exact absurd rfl h
theorem or_bool {fb : EF} {ρ : DEnv} : ∀ (d : D) (S : Sto), (match d with | .bl true => Res.ok (.bl true) S | .bl false => fb ρ S | _ => Res.stuck) ≠ Res.stuck → ∃ b, d = .bl b := fun d S h => by
  cases d with
  | bl b => exact ⟨b, rfl⟩
  | _ => exact absurd rfl h
theorem if_bool {fa fb : EF} {ρ : DEnv} : ∀ (d : D) (S : Sto), (match d with | .bl true => fa ρ S | .bl false => fb ρ S | _ => Res.stuck) ≠ Res.stuck → ∃ b, d = .bl b := fun d S h => by
  cases d with
  | bl b => exact ⟨b, rfl⟩
  | _ => exact absurd rfl h
theorem dw_and (ha : DT X W O a fa) (hb : DW X W O (.BoolOp .And (b :: rest) pos) fb) : DW X W O (.BoolOp .And (a :: b :: rest) pos) (eAnd fa fb) :=
  ⟨(pw_and ha.pt hb.pw).imp fun σ H Q ⟨ent, w, ρ, S, r, p⟩ => ⟨ent, w, ρ, S, r, p.bind and_bool fun c S1 H1 w1 x g q => by
    cases c with
    | true => rw [if_pos rfl]; exact ⟨ent, w1, ρ, S1, r.later x g, q⟩
    | false => rw [if_neg Bool.false_ne_true]; obtain ⟨_, e, q⟩ := q; cases e; exact q H1 w1 (.refl _ _) g⟩⟩
theorem dw_or (ha : DT X W O a fa) (hb : DW X W O (.BoolOp .Or (b :: rest) pos) fb) : DW X W O (.BoolOp .Or (a :: b :: rest) pos) (eOr fa fb) :=
  ⟨(pw_or ha.pt hb.pw).imp fun σ H Q ⟨ent, w, ρ, S, r, p⟩ => ⟨ent, w, ρ, S, r, p.bind or_bool fun c S1 H1 w1 x g q => by
    cases c with
    | true => rw [if_pos rfl]; obtain ⟨_, e, q⟩ := q; cases e; exact q H1 w1 (.refl _ _) g
    | false => rw [if_neg Bool.false_ne_true]; exact ⟨ent, w1, ρ, S1, r.later x g, q⟩⟩⟩
theorem not_bool : ∀ (d : D) (S : Sto), Res.ofOpt (notF d) S ≠ .stuck → ∃ b, d = .bl b := fun d S h => by
  cases d with
  | bl b => exact ⟨b, rfl⟩
  | _ => exact absurd rfl h
theorem dt_not (ha : DT X W O a fa) : DT X W O (.UnaryOp .Not a pos) (eNot fa) :=
  ⟨(pt_not ha.pt).imp fun σ H Q ⟨ent, w, ρ, S, r, p⟩ => ⟨ent, w, ρ, S, r, p.bind not_bool fun c S1 H1 w1 x g q => by
    obtain ⟨_, e, q⟩ := q; cases e; exact q H1 w1 (.refl _ _) g⟩⟩
/-- and, or, not as values -/
theorem de_one {op} (ha : DE k X W O a fa) : DE k X W O (.BoolOp op [a] pos) fa := ⟨pe_one ha.pe⟩
theorem de_and (ha : DE .e X W O a fa) (hb : DE .e X W O (.BoolOp .And (b :: rest) pos) fb) : DE .e X W O (.BoolOp .And (a :: b :: rest) pos) (eAnd fa fb) :=
  ⟨(pe_and ha.pe hb.pe).imp fun σ H Q ⟨ent, w, ρ, S, r, p⟩ => by
    have p' := PostT.val (k := .e) (p.bindT and_bool fun c S1 H1 w1 x g q => (show (if c = true then rd X.K .e W O fb σ H1 Q else Q (.bl false) H1) by
      cases c with
      | true => rw [if_pos rfl]; exact ⟨ent, w1, ρ, S1, r.later x g, q⟩
      | false => rw [if_neg Bool.false_ne_true]; exact q _ H1 w1 (.refl _ _) g (.bl false)))
    exact ⟨ent, w, ρ, S, r, p'⟩⟩
theorem de_or (ha : DE .e X W O a fa) (hb : DE .e X W O (.BoolOp .Or (b :: rest) pos) fb) : DE .e X W O (.BoolOp .Or (a :: b :: rest) pos) (eOr fa fb) :=
  ⟨(pe_or ha.pe hb.pe).imp fun σ H Q ⟨ent, w, ρ, S, r, p⟩ => by
    have p' := PostT.val (k := .e) (p.bindT or_bool fun c S1 H1 w1 x g q => (show (if c = true then Q (.bl true) H1 else rd X.K .e W O fb σ H1 Q) by
      cases c with
      | true => rw [if_pos rfl]; exact q _ H1 w1 (.refl _ _) g (.bl true)
      | false => rw [if_neg Bool.false_ne_true]; exact ⟨ent, w1, ρ, S1, r.later x g, q⟩))
    exact ⟨ent, w, ρ, S, r, p'⟩⟩
theorem de_not (ha : DE .e X W O a fa) : DE .e X W O (.UnaryOp .Not a pos) (eNot fa) :=
  ⟨(pe_not ha.pe).imp fun σ H Q ⟨ent, w, ρ, S, r, p⟩ => by
    have p' := PostT.val (k := .e) (p.bindT not_bool fun c S1 H1 w1 x g q => (show Q (.bl (!c)) H1 from q _ H1 w1 (.refl _ _) g (.bl _)))
    exact ⟨ent, w, ρ, S, r, p'⟩⟩
theorem de_ifx {c : Expr} (hc : DT X W O c fc) (ha : DE k X W O a fa) (hb : DE k X W O b fb) : DE k X W O (.IfExp c a b pos) (eIf fc fa fb) :=
  ⟨(pe_ifExp hc.pt ha.pe hb.pe).imp fun σ H Q ⟨ent, w, ρ, S, r, p⟩ => ⟨ent, w, ρ, S, r, p.bindT if_bool fun c S1 H1 w1 x g q => by
    cases c with
    | true => rw [if_pos rfl]; exact ⟨ent, w1, ρ, S1, r.later x g, q⟩
    | false => rw [if_neg Bool.false_ne_true]; exact ⟨ent, w1, ρ, S1, r.later x g, q⟩⟩⟩
theorem KP.non {K : PySem.W.Frag} {H H' : Hp} {w' : Wit} {d : D} {v : V} {k : Kd} (h0 : KP K k H w' H' d v) : decide (v = .non) = (match d with | .non => true | _ => false) := by
  rcases (h0.b : KP K .b H w' H' d v) with h | ⟨a, rfl, h⟩
  · cases h <;> rfl
  · cases d with
    | lst _ => rfl
    | dct _ => rfl
    | dtt _ => rfl
    | dno _ => rfl
    | _ => exact h.2.2.elim
theorem isN_of {K : PySem.W.Frag} : ∀ σ H Q, rd K .e W O (eIsN fa) σ H Q → tIsN (rd K k W O fa) σ H Q := by
  rintro σ H Q ⟨ent, w, ρ, S, r, p⟩
  refine ⟨ent, w, ρ, S, r, p.bind fun d S1 v H1 w1 x g1 z p1 => ?_⟩
  rw [z.non]
  cases d <;> exact p1 _ H1 w1 (.refl _ _) g1 (.bl _)
theorem notN_of {K : PySem.W.Frag} : ∀ σ H Q, rd K .e W O (eNotN fa) σ H Q → tNotN (rd K k W O fa) σ H Q := by
  rintro σ H Q ⟨ent, w, ρ, S, r, p⟩
  refine ⟨ent, w, ρ, S, r, p.bind fun d S1 v H1 w1 x g1 z p1 => ?_⟩
  rw [z.non]
  cases d <;> exact p1 _ H1 w1 (.refl _ _) g1 (.bl _)
theorem dt_isN {j pos'} (ha : DE k X W O a fa) : DT X W O (.Compare a [.Is] [.Constant .none j pos'] pos) (eIsN fa) := ⟨(pt_cmp (pc_isN ha.pe)).imp fun σ H Q h => isN_of σ H _ (rdT_val (k := .e) σ H Q h)⟩
theorem dt_notN {j pos'} (ha : DE k X W O a fa) : DT X W O (.Compare a [.IsNot] [.Constant .none j pos'] pos) (eNotN fa) := ⟨(pt_cmp (pc_notN ha.pe)).imp fun σ H Q h => notN_of σ H _ (rdT_val (k := .e) σ H Q h)⟩
theorem chain_of {K : PySem.W.Frag} {g g' : D → D → Option D} {kc : Kd} : ∀ σ H Q, rd K .e W O (eChain g g' fa fb fc) σ H Q → tChain (r2 K .e g) (r2 K .e g') (rd K ka W O fa) (rd K kb W O fb) (rd K kc W O fc) σ H Q := by
  rintro σ H Q ⟨ent, w, ρ, S, r, p⟩
  refine ⟨ent, w, ρ, S, r, p.bind fun d S1 v H1 w1 x g1 z p1 => ?_⟩
  refine ⟨ent, w1, ρ, S1, r.later x g1, p1.bind fun d2 S2 v2 H2 w2 x2 g2 z2 p2 => ?_⟩
  cases e : g (deref S2 d) (deref S2 d2) with
  | none => rw [e] at p2; exact p2.elim
  | some d' =>
    rw [e] at p2
    refine ⟨w2, S2, d, d2, d', g2, z.ext x2, z2.ext (.refl _ _), e, fun v3 H3 w3 x3 g3 z3 => ?_⟩
    cases d' with
    | bl t =>
      refine ⟨t, KP.bool (k := .e) z3, ?_⟩
      cases t with
      | false => rw [if_neg Bool.false_ne_true]; exact p2 _ H3 w3 x3 g3 (.bl false)
      | true =>
        rw [if_pos rfl]
        simp only [Res.ofOpt_some, Res.bind_ok] at p2
        refine ⟨ent, w3, ρ, S2, r.later (x.trans (x2.trans x3)) g3, (Post.later x3 p2).bind fun d4 S4 v4 H4 w4 x4 g4 z4 p4 => ?_⟩
        cases e' : g' (deref S4 d2) (deref S4 d4) with
        | none => rw [e'] at p4; exact p4.elim
        | some d5 => rw [e'] at p4; exact ⟨w4, S4, d2, d4, d5, g4, z2.ext (x3.trans x4), z4.ext (.refl _ _), e', p4⟩
    | _ => exact p2.elim
theorem de_chain {op op' : CmpOp} {g g' : D → D → Option D} {c : Expr} {kc : Kd} (ho : OpR X (compareOp op) (r2 X.K .e g)) (ho' : OpR X (compareOp op') (r2 X.K .e g')) (ha : DE ka X W O a fa) (hb : DE kb X W O b fb) (hc : DE kc X W O c fc)
    (hm : lastMarks [op, op'] [b, c] = false := by with_unfolding_all rfl) : DE .e X W O (.Compare a [op, op'] [b, c] pos) (eChain g g' fa fb fc) := ⟨(pe_chain ho ho' ha.pe hb.pe hc.pe hm).imp chain_of⟩
end

/-! ### statements -/
theorem R.unknown {K : PySem.W.Frag} {Z : Option XC} {ent : Ent Z} {k : Wit} {O : List Nat} {w : Wit} {H : Hp} {σ : L2.St} {ρ : DEnv} {S : Sto} (r : R K (⟨ent.w, ent.H, k⟩ : Ent Z) O w H σ ρ S) (l : Le ent.k k) : R K ent O w H σ ρ S := ⟨r.gd, r.ext, l.trans r.kn, r.val, r.own, r.dis, r.len, r.exc, r.thk⟩
def SPost (K : PySem.W.Frag) {Z : Option XC} (ent : Ent Z) (L : Lp) (W : WZ) (O' : List Nat) (r : SRes) (En : Ends) : Prop := match r with
  | .nx ρ S => ∀ w H σ, R K ent O' w H σ ρ S → En.nx σ H
  | .rt d S => ∀ v H w, Ext ent.w ent.H w H → Gd K w H S → KP K W.rk ent.H w H d v → En.rt v H
  | .bk ρ S => ∀ w H σ, R K ent L.bk w H σ ρ S → En.bk σ H
  | .ct ρ S => ∀ w H σ, R K ent L.ct w H σ ρ S → En.ct σ H
  | .exn x ρ S => ∀ w H σ cls dx, R K ent [] w H σ ρ S → RepX K w H x cls dx → W.wx cls dx σ H
  | .stuck => False
def rdS (K : PySem.W.Frag) (L : Lp) (W : WZ) (O O' : List Nat) (f : SF) : TS := fun D σ H => ∃ (ent : Ent W.xc) (w : Wit) (ρ : DEnv) (S : Sto), R K ent O w H σ ρ S ∧ SPost K ent L W O' (f ρ S) D
structure DS (X : Cx) (W : WZ) (L : Lp) (O : List Nat) (st : Stmt) (O' : List Nat) (f : SF) : Prop where
  ps : PS X st (rdS X.K L W O O' f)
structure DSs (X : Cx) (W : WZ) (L : Lp) (O : List Nat) (st : List Stmt) (O' : List Nat) (f : SF) : Prop where
  ps : PSs X st (rdS X.K L W O O' f)
/-- a def's exception out of an expression -/
theorem exn_of {K : PySem.W.Frag} {Z : Option XC} {ent : Ent Z} {O : List Nat} {w : Wit} {H : Hp} {W : WZ} {σ : L2.St} {ρ : DEnv} {S S' : Sto} {x : D} {L : Lp} {O' : List Nat} {En : Ends} (r : R K ent O w H σ ρ S) (p : SPost K ent L W O' (.exn x ρ S') En) :
    ∀ cls dx H' w', Ext w H w' H' → Gd K w' H' S' → RepX K w' H' x cls dx → W.wx cls dx σ H' := fun cls dx H' w' y g h => by
  obtain ⟨w2, l2, r2⟩ := (r.later y g).weak [] (by simp)
  exact p w2 H' σ cls dx r2 (h.mono l2)
section
variable {X : Cx} {W : WZ} {L : Lp} {O O1 O2 O' : List Nat} {st : Stmt} {rest : List Stmt} {f g : SF}
theorem dss_nil : DSs X W L O [] O sNext := ⟨pss_nil.imp fun D σ H ⟨ent, w, ρ, S, r, p⟩ => p w H σ r⟩
theorem seq_of {K : PySem.W.Frag} : ∀ D σ H, rdS K L W O O2 (sSeq f g) D σ H → tSeq (rdS K L W O O1 f) (rdS K L W O1 O2 g) D σ H := by
  rintro D σ H ⟨ent, w, ρ, S, r, p⟩
  refine ⟨ent, w, ρ, S, r, ?_⟩
  unfold sSeq at p
  cases e : f ρ S with
  | nx ρ1 S1 => rw [e] at p; exact fun w1 H1 σ1 r1 => ⟨ent, w1, ρ1, S1, r1, p⟩
  | rt d S1 => rw [e] at p; exact p
  | bk ρ1 S1 => rw [e] at p; exact p
  | ct ρ1 S1 => rw [e] at p; exact p
  | exn x ρ1 S1 => rw [e] at p; exact p
  | stuck => rw [e] at p; exact p
theorem dss_cons (h1 : DS X W L O st O1 f) (h2 : DSs X W L O1 rest O2 g) : DSs X W L O (st :: rest) O2 (sSeq f g) := ⟨(pss_cons h1.ps h2.ps).imp seq_of⟩
theorem dss_one (h1 : DS X W L O st O1 f) : DSs X W L O [st] O1 f := ⟨pss_one h1.ps⟩
/-- own lists given away ahead of a statement -/
theorem DS.pre (h : DS X W L O1 st O' f) (hs : ∀ i, i ∈ O1 → i ∈ O := by decide) : DS X W L O st O' f := ⟨h.ps.imp fun D σ H ⟨ent, w, ρ, S, r, p⟩ => let ⟨w', _, r'⟩ := r.weak O1 hs; ⟨ent, w', ρ, S, r', p⟩⟩
theorem DSs.pre (h : DSs X W L O1 rest O' f) (hs : ∀ i, i ∈ O1 → i ∈ O := by decide) : DSs X W L O rest O' f := ⟨h.ps.imp fun D σ H ⟨ent, w, ρ, S, r, p⟩ => let ⟨w', _, r'⟩ := r.weak O1 hs; ⟨ent, w', ρ, S, r', p⟩⟩
theorem SPost.post {K : PySem.W.Frag} {Z : Option XC} {ent : Ent Z} {r : SRes} {En : Ends} (hs : ∀ i, i ∈ O' → i ∈ O1) (p : SPost K ent L W O' r En) : SPost K ent L W O1 r En := by
  cases r with
  | nx ρ S => intro w H σ r; obtain ⟨w', _, r'⟩ := r.weak O' hs; exact p w' H σ r'
  | rt d S1 => exact p
  | bk ρ1 S1 => exact p
  | ct ρ1 S1 => exact p
  | exn x ρ1 S1 => exact p
  | stuck => exact p
theorem DSs.post (h : DSs X W L O rest O1 f) (hs : ∀ i, i ∈ O' → i ∈ O1 := by decide) : DSs X W L O rest O' f := ⟨h.ps.imp fun D σ H ⟨ent, w, ρ, S, r, p⟩ => ⟨ent, w, ρ, S, r, p.post hs⟩⟩
theorem DS.post (h : DS X W L O st O1 f) (hs : ∀ i, i ∈ O' → i ∈ O1 := by decide) : DS X W L O st O' f := ⟨h.ps.imp fun D σ H ⟨ent, w, ρ, S, r, p⟩ => ⟨ent, w, ρ, S, r, p.post hs⟩⟩
theorem ds_never : DS X W L O st O' sNever := ⟨ps_never.imp fun D σ H ⟨ent, w, ρ, S, r, p⟩ => p⟩
end
theorem SPost.bind {K : PySem.W.Frag} {Z : Option XC} {ent : Ent Z} {O O' : List Nat} {w : Wit} {H : Hp} {W : WZ} {σ : L2.St} {ρ : DEnv} {S : Sto} {L : Lp} {En : Ends} {re : Res} {c : D → Sto → SRes} {k : Kd} {Q : VK} (r : R K ent O w H σ ρ S)
    (p : SPost K ent L W O' (sBind re ρ c) En) (h : ∀ d S1 v H1 w1, Ext w H w1 H1 → Gd K w1 H1 S1 → KP K k H w1 H1 d v → SPost K ent L W O' (c d S1) En → Q v H1) : Post K k w H W σ re Q := by
  cases re with
  | ok d S1 => exact fun v H1 w1 x g z => h d S1 v H1 w1 x g z p
  | exn x S1 => exact exn_of r p
  | stuck => exact p
theorem SPost.bindT {K : PySem.W.Frag} {Z : Option XC} {ent : Ent Z} {O O' : List Nat} {w : Wit} {H : Hp} {W : WZ} {σ : L2.St} {ρ : DEnv} {S : Sto} {L : Lp} {En : Ends} {re : Res} {c : D → Sto → SRes} {Q : Bool → Hp → Prop} (r : R K ent O w H σ ρ S)
    (p : SPost K ent L W O' (sBind re ρ c) En) (hs : ∀ d S, c d S ≠ .stuck → ∃ b, d = .bl b) (h : ∀ b S1 H1 w1, Ext w H w1 H1 → Gd K w1 H1 S1 → SPost K ent L W O' (c (.bl b) S1) En → Q b H1) : PostT K w H W σ re Q := by
  cases re with
  | ok d S1 =>
    have hn : c d S1 ≠ .stuck := fun q => by
      have p' : SPost K ent L W O' (c d S1) En := p
      rw [q] at p'; exact p'
    obtain ⟨b, rfl⟩ := hs d S1 hn
    exact ⟨b, rfl, fun H1 w1 x g => h b S1 H1 w1 x g p⟩
  | exn x S1 => exact exn_of r p
  | stuck => exact p
section
variable {X : Cx} {W : WZ} {L : Lp} {O O1 O2 O' : List Nat} {e c : Expr} {fe fc : EF} {f g : SF} {pos : Pos} {k : Kd}
theorem KP.since {K : PySem.W.Frag} {k : Kd} {H0 H H' : Hp} {w' : Wit} {d : D} {v : V} (h : KP K k H w' H' d v) (t : ∀ a, Nb (H a) → Nb (H0 a)) : KP K k H0 w' H' d v := by
  cases k with
  | e => exact h
  | b => exact h
  | f =>
    obtain ⟨a, e, n, o⟩ := h
    exact ⟨a, e, t a n, o⟩
theorem ds_retK (he : DE W.rk X W O e fe) : DS X W L O (.Return (some e) pos) O' (sRet fe) :=
  ⟨(ps_ret he.pe).imp fun D σ H ⟨ent, w, ρ, S, r, p⟩ => ⟨ent, w, ρ, S, r, SPost.bind r p fun d S1 v H1 w1 x g1 z q => q v H1 w1 (r.ext.trans x) g1 (KP.since z r.ext.there)⟩⟩
theorem ds_ret (he : DE .e X W O e fe) (hk : W.rk = .e := by rfl) : DS X W L O (.Return (some e) pos) O' (sRet fe) := ds_retK (hk ▸ he)
theorem ds_expr (he : DE k X W O e fe) (hs : swapsWith e none pos.line X.env = pure false := by rfl) : DS X W L O (.Expr e pos) O (sExpr fe) :=
  ⟨(ps_expr he.pe hs).imp fun D σ H ⟨ent, w, ρ, S, r, p⟩ => ⟨ent, w, ρ, S, r, SPost.bind r p fun d S1 v H1 w1 x g1 z q => q w1 H1 σ (r.later x g1)⟩⟩
/-- name = value -/
theorem set_of {K : PySem.W.Frag} {i : Nat} (hO : i ∉ O) : ∀ D σ H, rdS K L W O O (sSet i fe) D σ H → tAsg (rd K .e W O fe) (gName i) D σ H :=
  fun D σ H ⟨ent, w, ρ, S, r, p⟩ => ⟨ent, w, ρ, S, r, SPost.bind r p fun d S1 v H1 w1 x g1 z q => q w1 H1 _ ((r.later x g1).put hO z)⟩
/-- name = a new list, which is the def's own -/
theorem setOwn_of {K : PySem.W.Frag} {i : Nat} (hO : i ∉ O) : ∀ D σ H, rdS K L W O (i :: O) (sSet i fe) D σ H → tAsg (rd K .f W O fe) (gName i) D σ H := by
  rintro D σ H ⟨ent, w, ρ, S, r, p⟩
  refine ⟨ent, w, ρ, S, r, SPost.bind r p ?_⟩
  rintro d S1 v H1 w1 x g1 ⟨a, rfl, n, o⟩ q
  refine q w1 H1 _ ((r.later x g1).putOwn o ?_ fun j hj _ ⟨ej, he⟩ hs => ?_)
  · exact r.ext.there a n
  · obtain ⟨b, s1, s2, _⟩ := r.own j ej he hj
    rw [hs] at s1; cases s1
    exact s2.nt.nb n
theorem ds_set (i : Nat) {x : Str} {pos' : Pos} (he : DE .e X W O e fe) (hN : X.N.Nodup) (hO : i ∉ O := by decide) (hi : X.N[i]? = some x := by rfl) (hx : Loc X.env.scope x := by first | exact Or.inl rfl | exact Or.inr rfl) (hs : swapsWith e (some (.Name x pos')) pos.line X.env = pure false := by rfl) (hf : X.fn x = true ∨ X.env.scope.names.lookup x = some .local := by first | exact .inl rfl | exact .inr rfl | assumption) :
    DS X W L O (.Assign [.Name x pos'] e pos) O (sSet i fe) := ⟨(ps_set hN hi hx he.pe hs hf).imp (set_of hO)⟩
theorem ds_own (i : Nat) {x : Str} {pos' : Pos} (he : DE .f X W O e fe) (hN : X.N.Nodup) (hO : i ∉ O := by decide) (hi : X.N[i]? = some x := by rfl) (hx : Loc X.env.scope x := by first | exact Or.inl rfl | exact Or.inr rfl) (hs : swapsWith e (some (.Name x pos')) pos.line X.env = pure false := by rfl) (hf : X.fn x = true ∨ X.env.scope.names.lookup x = some .local := by first | exact .inl rfl | exact .inr rfl | assumption) :
    DS X W L O (.Assign [.Name x pos'] e pos) (i :: O) (sSet i fe) := ⟨(ps_set hN hi hx he.pe hs hf).imp (setOwn_of hO)⟩
theorem ifs_bool {f g : SF} {ρ : DEnv} : ∀ (d : D) (S : Sto), (match d with | .bl true => f ρ S | .bl false => g ρ S | _ => SRes.stuck) ≠ SRes.stuck → ∃ b, d = .bl b := fun d S h => by
  cases d with
  | bl b => exact ⟨b, rfl⟩
  | _ => exact absurd rfl h
theorem ds_if {a b : List Stmt} (hc : DT X W O c fc) (ha : DSs X W L O a O' f) (hb : DSs X W L O b O' g) : DS X W L O (.If c a b pos) O' (sIf fc f g) :=
  ⟨(ps_if hc.pt ha.ps hb.ps).imp fun D σ H ⟨ent, w, ρ, S, r, p⟩ => ⟨ent, w, ρ, S, r, SPost.bindT r p ifs_bool fun b S1 H1 w1 x g1 q => by
    cases b with
    | true => rw [if_pos rfl]; exact ⟨ent, w1, ρ, S1, r.later x g1, q⟩
    | false => rw [if_neg Bool.false_ne_true]; exact ⟨ent, w1, ρ, S1, r.later x g1, q⟩⟩⟩
end

/-! ### targets -/
structure GOk (K : PySem.W.Frag) (O : List Nat) (f : GF) (t : TG) : Prop where
  env : ∀ d ρ ρ', f d ρ = some ρ' → ∀ i, i ∈ O → ρ'[i]? = ρ[i]?
  ok : ∀ {Z : Option XC} {ent : Ent Z} {w : Wit} {H : Hp} {σ : L2.St} {ρ : DEnv} {S : Sto} {d : D} {v : V} {ρ' : DEnv} {Q : L2.St → Hp → Prop}, R K ent O w H σ ρ S → Rep K w d v → f d ρ = some ρ' → (∀ σ', (∀ i, i ∈ O → σ'[i]? = σ[i]?) → R K ent O w H σ' ρ' S → Q σ' H) → t v σ H Q
structure DG (X : Cx) (O : List Nat) (tg : Expr) (f : GF) (t : TG) : Prop where
  pg : PG X tg t
  ok : GOk X.K O f t
theorem gok_name {K : PySem.W.Frag} {O : List Nat} (i : Nat) (hO : i ∉ O := by decide) : GOk K O (gtName i) (gName i) := ⟨fun d ρ ρ' e j hj => by cases e; exact List.getElem?_set_ne (fun z : i = j => hO (by rw [z]; exact hj)), fun r h e q => by cases e; exact q _ (fun j hj => List.getElem?_set_ne (fun z : i = j => hO (by rw [z]; exact hj))) (r.put hO h)⟩
theorem dg_name {X : Cx} {O : List Nat} (i : Nat) {x : Str} {pos : Pos} (hN : X.N.Nodup) (hO : i ∉ O := by decide) (hi : X.N[i]? = some x := by rfl) (hx : Loc X.env.scope x := by first | exact Or.inl rfl | exact Or.inr rfl) (hf : X.fn x = true ∨ X.env.scope.names.lookup x = some .local := by first | exact .inl rfl | exact .inr rfl | assumption) :
    DG X O (.Name x pos) (gtName i) (gName i) := ⟨pg_name hN hi hx hf, gok_name i hO⟩
structure GOks (K : PySem.W.Frag) (O : List Nat) (n : Nat) (f : List D → DEnv → Option DEnv) (t : TGs) : Prop where
  len : ∀ ds ρ ρ', f ds ρ = some ρ' → ds.length = n
  env : ∀ ds ρ ρ', f ds ρ = some ρ' → ∀ i, i ∈ O → ρ'[i]? = ρ[i]?
  ok : ∀ {Z : Option XC} {ent : Ent Z} {w : Wit} {H : Hp} {σ : L2.St} {ρ : DEnv} {S : Sto} {ds : List D} {vs : List V} {ρ' : DEnv} {Q : L2.St → Hp → Prop}, R K ent O w H σ ρ S → Reps K w ds vs → f ds ρ = some ρ' → (∀ σ', (∀ i, i ∈ O → σ'[i]? = σ[i]?) → R K ent O w H σ' ρ' S → Q σ' H) → t vs σ H Q
structure DGs (X : Cx) (O : List Nat) (tgs : List Expr) (f : List D → DEnv → Option DEnv) (t : TGs) : Prop where
  pg : PGs X tgs t
  ok : GOks X.K O tgs.length f t
theorem gtNil_len : ∀ (ds : List D) (ρ ρ' : DEnv), gtNil ds ρ = some ρ' → ds.length = 0 := fun ds ρ ρ' e => by
  cases ds with
  | nil => rfl
  | cons a b => cases (show (none : Option DEnv) = some ρ' from e)
theorem gtCons_some {f : GF} {g : List D → DEnv → Option DEnv} {ds : List D} {ρ ρ' : DEnv} (e : gtCons f g ds ρ = some ρ') : ∃ d r ρ1, ds = d :: r ∧ f d ρ = some ρ1 ∧ g r ρ1 = some ρ' := by
  cases ds with
  | nil => cases (show (none : Option DEnv) = some ρ' from e)
  | cons a b =>
    have e' : (f a ρ).bind (fun ρ' => g b ρ') = some ρ' := e
    cases z : f a ρ with
    | none => rw [z] at e'; cases (show (none : Option DEnv) = some ρ' from e')
    | some ρ1 => rw [z] at e'; exact ⟨a, b, ρ1, rfl, z, e'⟩
theorem goks_nil {K : PySem.W.Frag} {O : List Nat} : GOks K O 0 gtNil gNil where
  len := gtNil_len
  env := fun ds ρ ρ' e i hi => by
    cases ds with
    | nil => cases e; rfl
    | cons a b => cases (show (none : Option DEnv) = some ρ' from e)
  ok := fun {Z ent w H σ ρ S ds vs ρ' Q} r h e q => by
    cases h with
    | nil => cases e; exact ⟨rfl, q _ (fun _ _ => rfl) r⟩
    | cons h t => cases (show (none : Option DEnv) = some ρ' from e)
theorem goks_cons {K : PySem.W.Frag} {O : List Nat} {n : Nat} {f : GF} {g : List D → DEnv → Option DEnv} {t : TG} {u : TGs} (h1 : GOk K O f t) (h2 : GOks K O n g u) : GOks K O (n + 1) (gtCons f g) (gCons t u) where
  len := fun ds ρ ρ' e => by
    obtain ⟨d, r, ρ1, rfl, _, e2⟩ := gtCons_some e
    simp [h2.len _ _ _ e2]
  env := fun ds ρ ρ' e i hi => by
    obtain ⟨d, r, ρ1, rfl, e1, e2⟩ := gtCons_some e
    exact (h2.env _ _ _ e2 i hi).trans (h1.env _ _ _ e1 i hi)
  ok := fun {Z ent w H σ ρ S ds vs ρ' Q} r h e q => by
    obtain ⟨d, ds', ρ1, rfl, e1, e2⟩ := gtCons_some e
    cases h with
    | @cons d v ds vs h tt => exact ⟨v, vs, rfl, h1.ok r h e1 fun σ1 s1 r1 => h2.ok r1 tt e2 fun σ2 s2 r2 => q σ2 (fun i hi => (s2 i hi).trans (s1 i hi)) r2⟩
theorem dgs_nil {X : Cx} {O : List Nat} : DGs X O [] gtNil gNil := ⟨pgs_nil, goks_nil⟩
theorem dgs_cons {X : Cx} {O : List Nat} {e : Expr} {es : List Expr} {f : GF} {g : List D → DEnv → Option DEnv} {t : TG} {u : TGs} (h1 : DG X O e f t) (h2 : DGs X O es g u)
    (hs : (assignEach (e :: es) X.env).map (·.2) = assign e X.env :: (assignEach es X.env).map (·.2) := by rfl) : DGs X O (e :: es) (gtCons f g) (gCons t u) := ⟨pgs_cons h1.pg h2.pg hs, goks_cons h1.ok h2.ok⟩
theorem gok_tup {K : PySem.W.Frag} {O : List Nat} {n : Nat} {g : List D → DEnv → Option DEnv} {u : TGs} (h : GOks K O n g u) : GOk K O (gtTup g) (gTup K n u) where
  env := fun d ρ ρ' e i hi => by
    cases d with
    | tup ds => exact h.env ds ρ ρ' e i hi
    | _ => cases (show (none : Option DEnv) = some ρ' from e)
  ok := fun {Z ent w H σ ρ S d v ρ' Q} r k e q => by
    cases k with
    | @tup a vs ds hq rs =>
      exact ⟨a, vs, rfl, SqT.of (r.gd.sub _ _ hq), by rw [← rs.length]; exact h.len _ _ _ e, h.ok r rs e q⟩
    | _ => cases (show (none : Option DEnv) = some ρ' from e)
theorem dg_tup {X : Cx} {O : List Nat} {es : List Expr} {g : List D → DEnv → Option DEnv} {u : TGs} {j : Nat} {pos : Pos} (h : DGs X O es g u) (hc : X.calm = true := by rfl) (hn : (assignEach es X.env).length = es.length := by rfl) (hst : (assignEach es X.env).findIdx? (·.1) = none := by rfl) :
    DG X O (.Tuple es j pos) (gtTup g) (gTup X.K es.length u) := ⟨pg_tup hc h.pg hn hst, gok_tup h.ok⟩
theorem ds_unp {X : Cx} {W : WZ} {L : Lp} {O : List Nat} {tg e : Expr} {g : GF} {t : TG} {fe : EF} {pos : Pos} (he : DE .e X W O e fe) (hg : DG X O tg g t) (hs : swapsWithSole [tg] e pos.line X.env = pure false := by rfl) (hw : swappedStores [tg] e X.env = pure none := by rfl)
    (h1 : (assignEach [tg] X.env).map (·.2) = [assign tg X.env] := by rfl) : DS X W L O (.Assign [tg] e pos) O (sUnp g fe) :=
  ⟨(ps_asg he.pe hg.pg hs hw h1).imp fun D σ H ⟨ent, w, ρ, S, r, p⟩ => ⟨ent, w, ρ, S, r, SPost.bind r p fun d S1 v H1 w1 x g1 z q => by
    cases e : g d ρ with
    | none => rw [e] at q; exact q.elim
    | some ρ' => rw [e] at q; exact hg.ok.ok (r.later x g1) z e fun σ' _ r' => q w1 H1 σ' r'⟩⟩

/-! ### loops -/
/-- the things that J yields -/
def ItOk (K : PySem.W.Frag) (w : Wit) (J : It) (ds : List D) : Prop := ∀ w' H' S' i, Le w w' → Gd K w' H' S' →
  (∀ d, ds[i]? = some d → J.go i H' ∧ ∀ x H2, J.yld i H' x H2 → ∃ w2, Ext w' H' w2 H2 ∧ Gd K w2 H2 S' ∧ Rep K w2 d x) ∧ (i = ds.length → J.stop i H')
def PostI (K : PySem.W.Frag) (w : Wit) (H : Hp) (W : WZ) (σ : L2.St) (r : Ress) (Q : It → Hp → Prop) : Prop := match r with
  | .ok ds S => ∀ J H' w', Ext w H w' H' → Gd K w' H' S → ItOk K w' J ds → ds.length ≤ sizeLine → Q J H'
  | .exn x S => ∀ cls dx H' w', Ext w H w' H' → Gd K w' H' S → RepX K w' H' x cls dx → W.wx cls dx σ H'
  | .stuck => False
def rdI (K : PySem.W.Frag) (W : WZ) (O : List Nat) (f : IF) : TI := fun σ H Q => ∃ (ent : Ent W.xc) (w : Wit) (ρ : DEnv) (S : Sto), R K ent O w H σ ρ S ∧ PostI K w H W σ (f ρ S) Q
structure DI (X : Cx) (W : WZ) (O : List Nat) (tg it : Expr) (f : IF) : Prop where
  pi : PI X tg it (rdI X.K W O f)
theorem ds_for {X : Cx} {W : WZ} {L : Lp} {O : List Nat} {tg iter : Expr} {body : List Stmt} {fi : IF} {g : GF} {t : TG} {fb : SF} {pos : Pos} (hp : PassesOwn (model X.prog X.w) X.A X.env X.xe) (hi : DI X W O tg iter fi) (hg : DG X O tg g t) (hb : DSs X W ⟨O, O⟩ O body O fb)
    (hc : X.calm = true := by rfl) (hs : ∀ x, foldedSetIterable iter X.env x = pure x := by intro _; rfl) : DS X W L O (.For tg iter body [] pos) O (sFor fi g fb) := by
  refine ⟨(ps_for hp hc hi.pi hg.pg hb.ps hs).imp ?_⟩
  rintro D σ H ⟨ent, w, ρ, S, r, p⟩
  refine ⟨ent, w, ρ, S, r, ?_⟩
  unfold sFor at p
  cases e : fi ρ S with
  | stuck => rw [e] at p; exact p
  | exn x S1 => rw [e] at p; exact exn_of r p
  | ok ds S1 =>
    rw [e] at p
    intro J H1 w1 x1 g1 hJ hz
    refine ⟨fun i m σ H => m = ds.length - i ∧ i ≤ ds.length ∧ ∃ w ρ S, R X.K (⟨ent.w, ent.H, w1⟩ : Ent _) O w H σ ρ S ∧ SPost X.K ent L W O (forD g fb (ds.drop i) ρ S) D, ⟨ds.length, by simp, Nat.zero_le _, w1, ρ, S1, (r.later x1 g1).known, by simpa using p⟩, ?_⟩
    rintro i m σ2 H2 ⟨rfl, hi, w2, ρ2, S2, r2, p2⟩
    have l2 : Le w1 w2 := r2.kn
    have lk : Le ent.k w1 := r.kn.trans x1.le
    obtain ⟨j1, j2⟩ := hJ w2 H2 S2 i l2 r2.gd
    by_cases hlt : i < ds.length
    · obtain ⟨jg, jy⟩ := j1 ds[i] (List.getElem?_eq_getElem hlt)
      refine .inr ⟨jg, fun σ' H' => ∃ w' ρ' S', R X.K (⟨ent.w, ent.H, w1⟩ : Ent _) O w' H' σ' ρ' S' ∧ SPost X.K ent L W O (forD g fb (ds.drop (i + 1)) ρ' S') D, fun σ' H' ⟨w', ρ', S', r', p'⟩ => ⟨ds.length - (i + 1), by omega, rfl, hlt, w', ρ', S', r', p'⟩, fun x H3 y => ?_⟩
      obtain ⟨w3, x3, g3, z3⟩ := jy x H3 y
      rw [List.drop_eq_getElem_cons hlt] at p2
      unfold forD at p2
      cases e2 : g ds[i] ρ2 with
      | none => rw [e2] at p2; exact p2.elim
      | some ρ3 =>
        rw [e2] at p2
        dsimp only at p2
        refine hg.ok.ok (r2.later x3 g3) z3 e2 fun σ3 _ r3 => ⟨(⟨ent.w, ent.H, w1⟩ : Ent _), w3, ρ3, S2, r3, ?_⟩
        cases e3 : fb ρ3 S2 with
        | nx ρ4 S4 => rw [e3] at p2; exact fun w4 H4 σ4 r4 => ⟨w4, ρ4, S4, r4, p2⟩
        | ct ρ4 S4 => rw [e3] at p2; exact fun w4 H4 σ4 r4 => ⟨w4, ρ4, S4, r4, p2⟩
        | bk ρ4 S4 => rw [e3] at p2; exact fun w4 H4 σ4 r4 => p2 w4 H4 σ4 (r4.unknown lk)
        | rt d S4 => rw [e3] at p2; exact p2
        | exn x ρ4 S4 => rw [e3] at p2; exact fun w4 H4 σ4 cls dx r4 h4 => p2 w4 H4 σ4 cls dx (r4.unknown lk) h4
        | stuck => rw [e3] at p2; exact p2
    · have ei : i = ds.length := by omega
      subst ei
      refine .inl ⟨j2 rfl, ?_⟩
      rw [List.drop_length] at p2
      exact p2 w2 H2 σ2 (r2.unknown lk)
end DL

/-! what is walked; comprehensions; while; defs and their calls -/
namespace DL
open PySem PySem.Spec PyProof.Rows L2

theorem lim_size {n : Nat} (h : n < LIM) : n < sizeLine := Nat.lt_trans h (by decide)

/-! ### what is walked -/
section
variable {K : PySem.W.Frag} {w : Wit} {a : Addr} {vs : List V} {ds : List D}
theorem itok_list (h : SqL K w.F a vs) (r : Reps K w ds vs) : ItOk K w (Itl K a) ds := fun w' H' S' i l g => by
  have hq : SqL K H' a vs := SqL.monoF g.sub (SqL.monoF l.F h)
  refine ⟨fun d e => ?_, fun hl => ⟨vs, hq, by rw [← r.length]; exact Nat.le_of_eq hl.symm⟩⟩
  obtain ⟨v, ev, rv⟩ := r.get e
  refine ⟨⟨vs, v, hq, ev⟩, fun x H2 y => ?_⟩
  obtain ⟨rfl, y⟩ := y
  have := y vs hq
  rw [ev] at this; cases this
  exact ⟨w', .refl _ _, g, rv.mono l⟩
theorem itok_tup (h : SqT K w.F a vs) (r : Reps K w ds vs) : ItOk K w (Itt K a) ds := fun w' H' S' i l g => by
  have hq : SqT K H' a vs := SqT.monoF g.sub (SqT.monoF l.F h)
  refine ⟨fun d e => ?_, fun hl => ⟨vs, hq, by rw [← r.length]; exact Nat.le_of_eq hl.symm⟩⟩
  obtain ⟨v, ev, rv⟩ := r.get e
  refine ⟨⟨vs, v, hq, ev⟩, fun x H2 y => ?_⟩
  obtain ⟨rfl, y⟩ := y
  have := y vs hq
  rw [ev] at this; cases this
  exact ⟨w', .refl _ _, g, rv.mono l⟩
theorem itok_range {lo : Int} {n : Nat} : ItOk K w (Itr lo n) ((List.range n).map fun (k : Nat) => D.int (lo + k)) := fun w' H' S' i l g => by
  refine ⟨fun d e => ?_, fun hl => (by simpa using Nat.le_of_eq hl.symm : n ≤ i)⟩
  have hi : i < n := by have := (List.getElem?_eq_some_iff.mp e).1; simpa using this
  refine ⟨hi, fun x H2 y => ?_⟩
  obtain ⟨rfl, rfl⟩ := y
  refine ⟨w', .refl _ _, g, ?_⟩
  rw [List.getElem?_map, List.getElem?_range hi] at e
  cases e
  exact .int _
end
section
variable {X : Cx} {W : WZ} {O : List Nat} {tg e e' : Expr} {es : List Expr} {f : EF} {fa : AF} {k : Kd}
theorem di_seq (he : DE .e X W O e f) : DI X W O tg e (iSeq f) := by
  refine ⟨((pi_list he.pe.sz).or (pi_tup he.pe.sz)).imp ?_⟩
  rintro σ H Q ⟨ent, w, ρ, S, r, p⟩
  unfold iSeq at p
  cases e1 : f ρ S with
  | stuck => rw [e1] at p; exact p.elim
  | exn x S1 => rw [e1] at p; exact .inl ⟨ent, w, ρ, S, r, by rw [e1]; exact p⟩
  | ok d S1 =>
    rw [e1] at p
    cases d with
    | lst ds =>
      refine .inl ⟨ent, w, ρ, S, r, ?_⟩
      rw [e1]
      intro v H1 w1 x1 g1 z hz
      cases z with
      | @lst a vs ds h rr =>
        have hh := SqL.monoF g1.sub h
        exact ⟨a, rfl, ⟨vs, hh⟩, p _ H1 w1 x1 g1 (itok_list h rr) (by rw [rr.length]; exact hz a vs (.inl hh))⟩
    | tup ds =>
      refine .inr ⟨ent, w, ρ, S, r, ?_⟩
      rw [e1]
      intro v H1 w1 x1 g1 z hz
      cases z with
      | @tup a vs ds h rr =>
        have hh : SqT X.K H1 a vs := SqT.of (g1.sub _ _ h)
        exact ⟨a, rfl, ⟨vs, hh⟩, p _ H1 w1 x1 g1 (itok_tup (SqT.of h) rr) (by rw [rr.length]; exact hz a vs (.inr hh))⟩
    | ctp ds =>
      refine .inr ⟨ent, w, ρ, S, r, ?_⟩
      rw [e1]
      intro v H1 w1 x1 g1 z hz
      cases z with
      | @ctp a vs ds h rr =>
        have hh : SqT X.K H1 a vs := SqT.monoF none_le h
        exact ⟨a, rfl, ⟨vs, hh⟩, p _ H1 w1 x1 g1 (itok_tup (SqT.monoF none_le h) rr) (by rw [rr.length]; exact hz a vs (.inr hh))⟩
    | _ => exact p.elim
theorem dInts_len (lo : Int) {n : Nat} (h : n < LIM) : (dInts lo n).length ≤ sizeLine := by
  unfold dInts; rw [List.length_map, List.length_range]; exact Nat.le_of_lt (lim_size h)
theorem di_range1 {p pos : Pos} (ha : DA X W O [e] fa) (hm : X.mg "range" = none) (hg : Gl X "range" := by rfl) (hs : starEach [e] X.env = [(false, eval e X.env)] := by rfl) : DI X W O tg (.Call (.Name "range" p) [e] [] pos) (iRange1 fa) := by
  refine ⟨(pi_range1 hg hm ha.pa hs).imp ?_⟩
  rintro σ H Q ⟨ent, w, ρ, S, r, p⟩
  refine ⟨ent, w, ρ, S, r, ?_⟩
  unfold iRange1 at p
  cases e1 : fa ρ S with
  | stuck => rw [e1] at p; exact p
  | exn x S1 => rw [e1] at p; exact p
  | ok ds S1 =>
    rw [e1] at p
    intro vs H1 w1 x1 g1 z
    cases z with
    | nil => exact p.elim
    | @cons d v ds vs h t =>
      cases t with
      | cons _ _ => cases d <;> exact p.elim
      | nil =>
        cases h with
        | int n =>
          dsimp only at p
          split at p
          · rename_i hc
            have hl : n.toNat < 1000000 := hc.1
            refine ⟨n, rfl, hc.2, by omega, ?_⟩
            exact p _ H1 w1 x1 g1 itok_range (dInts_len 0 hc.1)
          · exact p.elim
        | _ => exact p.elim
end

/-! ### comprehensions -/
section
variable {K : PySem.W.Frag} {Z : Option XC} {ent : Ent Z} {O : List Nat} {w w' : Wit} {H H' : Hp} {σ : L2.St} {ρ : DEnv} {S S' : Sto}
theorem R.wipe1 (r : R K ent O w H σ ρ S) (i : Nat) (hi : i ∉ O) : R K ent O w H (σ.set i none) (ρ.set i none) S where
  gd := r.gd
  ext := r.ext
  kn := r.kn
  val := fun j d e n => by
    by_cases q : i = j
    · subst q
      have hl : i < ρ.length := by have := (List.getElem?_eq_some_iff.mp e).1; simpa using this
      rw [List.getElem?_set_self hl] at e; cases e
    · rw [List.getElem?_set_ne q] at e
      obtain ⟨v, h1, h2⟩ := r.val j d e n
      exact ⟨v, by rw [List.getElem?_set_ne q]; exact h1, h2⟩
  own := fun j d e n => by
    have q : i ≠ j := fun z => hi (z ▸ n)
    rw [List.getElem?_set_ne q] at e
    obtain ⟨v, h1, h2⟩ := r.own j d e n
    exact ⟨v, by rw [List.getElem?_set_ne q]; exact h1, h2⟩
  dis := fun j k a hj hk ej ek sj sk => by
    have q1 : i ≠ j := fun z => hi (z ▸ hj)
    have q2 : i ≠ k := fun z => hi (z ▸ hk)
    rw [List.getElem?_set_ne q1] at ej sj
    rw [List.getElem?_set_ne q2] at ek sk
    exact r.dis j k a hj hk ej ek sj sk
  len := by simpa using r.len
  exc := fun z hz hj hn => by
    have q : i ≠ z.i := fun e => hi (e ▸ hj)
    rw [List.getElem?_set_ne q] at hn ⊢
    exact r.exc z hz hj hn
  thk := r.thk
theorem R.wipe (r : R K ent O w H σ ρ S) : ∀ vs : List Nat, (∀ i, i ∈ vs → i ∉ O) → R K ent O w H (L2.wipe σ vs) (wipeD ρ vs) S
  | [], _ => r
  | v :: vs, h => (R.wipe r vs fun i hi => h i (List.mem_cons_of_mem _ hi)).wipe1 v (h v List.mem_cons_self)
/-- the state does not know of an own thing's change -/
def Pd (o : Option HO) : Prop := (∀ ps, o ≠ some (.tbl ps)) ∧ ∀ c q, o ≠ some (LamX.CodeO c q)
theorem _root_.DL.Own.pd {K : PySem.W.Frag} {w : Wit} {H : Hp} {d : D} {a : Addr} (h : Own K w H d a) : Pd (H a) := ⟨fun _ => h.notbl, fun _ _ => h.nocode⟩
theorem pd_lst {o : Option HO} {us : List V} (e : o = some (.lst us)) : Pd o := ⟨fun ps z => (by rw [e] at z; cases z), fun c q z => by rw [e] at z; exact codeO_ne' (fun f z => by cases z) (Option.some.inj z).symm⟩
theorem Gd.updO (g : Gd K w H S) {a : Addr} {o : HO} (h1 : w.F a = none) (h2 : ∀ n, n < w.m → w.phi n ≠ a) (h3 : Pd (H a)) : Gd K w (upd H a o) S :=
  ⟨g.len, fun b u e => by rw [upd_ne (fun q => by rw [q, h1] at e; cases e)]; exact g.sub b u e,
    fun n u e => (g.sto n u e).mono (.refl w) fun z hz => by rw [upd_ne (h2 n (by rw [g.len]; exact (List.getElem?_eq_some_iff.mp e).1))]; exact hz, g.inj, g.nofz, g.tab.to rfl g.tab.f fun b u e hu => by
      rw [upd_ne]
      · exact e
      · rintro rfl
        rcases hu with ⟨ps, rfl⟩ | ⟨c, q, rfl⟩
        · exact h3.1 ps e
        · exact h3.2 c q e⟩
theorem Ext.updO {w0 : Wit} {H0 : Hp} (x : Ext w0 H0 w H) {a : Addr} {o : HO} (h : Nb (H0 a)) : Ext w0 H0 w (upd H a o) :=
  ⟨x.le, x.new, fun b u e => (x.keep b u e).elim .inl fun z => by
      by_cases q : b = a
      · subst q
        rcases h with h | ⟨ps, h⟩
        · rw [h] at e; cases e
        · rw [h] at e; cases e; exact .inl (.inr ⟨_, rfl⟩)
      · exact .inr (by rw [upd_ne q]; exact z),
    fun b hb => by
      by_cases q : b = a
      · rw [q]; exact h
      · rw [upd_ne q] at hb; exact x.there b hb, fun b hb e => ⟨(x.fz b hb e).1, by rw [upd_ne (fun q => hb.nb (by rw [q]; exact h))]; exact (x.fz b hb e).2⟩⟩
/-- a thing that no slot holds has changed -/
theorem R.updL (r : R K ent O w H σ ρ S) {a : Addr} {o : HO} (hx : ∀ fs, H a ≠ some (.xd fs)) (h1 : w.F a = none) (h2 : ∀ n, n < w.m → w.phi n ≠ a) (h3 : Pd (H a)) (he : Nb (ent.H a)) (hn : ∀ n, n ∈ O → (∃ d, ρ[n]? = some (some d)) → σ[n]? ≠ some (some (.ref a))) : R K ent O w (L2.upd H a o) σ ρ S :=
  ⟨r.gd.updO h1 h2 h3, r.ext.updO he, r.kn, r.val, fun i d e n => by
    obtain ⟨b, s1, s2, s3⟩ := r.own i d e n
    have ne : b ≠ a := fun z => hn i n ⟨d, e⟩ (by rw [s1, z])
    refine ⟨b, s1, ⟨s2.1, s2.2.1, ?_⟩, s3⟩
    obtain ⟨_, _, s4⟩ := s2
    cases d with
    | lst ds => obtain ⟨vs, e, r⟩ := s4; exact ⟨vs, by rw [upd_ne ne]; exact e, r⟩
    | dct ds => obtain ⟨vs, e, r⟩ := s4; exact ⟨vs, by rw [upd_ne ne]; exact e, r⟩
    | dtt ds => obtain ⟨vs, e, r⟩ := s4; exact ⟨vs, by rw [upd_ne ne]; exact e, r⟩
    | dno ds => exact (upd_ne ne).trans s4
    | _ => exact s4.elim, r.dis, r.len, fun z hz hi hn' => by
      obtain ⟨u1, u2⟩ := r.exc z hz hi hn'
      refine ⟨u1, u2.keeps fun dd vs e => ?_⟩
      have ne : dd ≠ a := fun e' => hx vs (by rw [← e']; exact e)
      rw [upd_ne ne]
      exact e, r.thk⟩
end
structure TOwn (t : TG) (vs : List Nat) : Prop where
  ok : ∀ v σ H Q, t v σ H Q → t v σ H (fun σ' H' => L2.wipe σ' vs = L2.wipe σ vs ∧ Q σ' H')
theorem wipe_set (σ : L2.St) (i : Nat) (x : Option V) : ∀ vs : List Nat, i ∈ vs → L2.wipe (σ.set i x) vs = L2.wipe σ vs
  | [], h => absurd h (by simp)
  | v :: vs, h => by
    show (L2.wipe (σ.set i x) vs).set v none = (L2.wipe σ vs).set v none
    by_cases q : i ∈ vs
    · rw [wipe_set σ i x vs q]
    · have ev : i = v := (List.mem_cons.mp h).elim id fun z => absurd z q
      subst ev
      have : ∀ (us : List Nat), i ∉ us → L2.wipe (σ.set i x) us = (L2.wipe σ us).set i x := by
        intro us
        induction us with
        | nil => intro _; rfl
        | cons u us ih =>
          intro hu
          have h1 : i ≠ u := fun z => hu (by simp [z])
          show (L2.wipe (σ.set i x) us).set u none = ((L2.wipe σ us).set u none).set i x
          rw [ih fun z => hu (List.mem_cons_of_mem _ z), List.set_comm _ _ h1]
      rw [this vs q, List.set_set]
theorem wipe_get (σ : L2.St) (i : Nat) : ∀ vs : List Nat, (L2.wipe σ vs)[i]? = if i ∈ vs then (σ[i]?).map (fun _ => none) else σ[i]?
  | [] => by simp [L2.wipe]
  | v :: vs => by
    show ((L2.wipe σ vs).set v none)[i]? = _
    by_cases q : v = i
    · subst q
      rw [if_pos List.mem_cons_self, List.getElem?_set]
      by_cases hl : v < σ.length
      · rw [if_pos rfl, if_pos (by rw [L2.wipe_length]; exact hl), List.getElem?_eq_getElem hl]; rfl
      · rw [if_pos rfl, if_neg (by rw [L2.wipe_length]; exact hl), List.getElem?_eq_none (by omega)]; rfl
    · rw [List.getElem?_set_ne q, wipe_get σ i vs]
      by_cases h : i ∈ vs
      · rw [if_pos h, if_pos (List.mem_cons_of_mem _ h)]
      · rw [if_neg h, if_neg (fun z => (List.mem_cons.mp z).elim (fun y => q y.symm) h)]
theorem wipe_wipe (σ : L2.St) (vs : List Nat) : L2.wipe (L2.wipe σ vs) vs = L2.wipe σ vs := by
  apply List.ext_getElem?
  intro i
  rw [wipe_get, wipe_get]
  by_cases h : i ∈ vs
  · rw [if_pos h, if_pos h]; cases σ[i]? <;> rfl
  · rw [if_neg h]
theorem TOwn.wiped {t : TG} {vs : List Nat} (ho : TOwn t vs) {v : V} {σ : L2.St} {H : Hp} {Q : L2.St → Hp → Prop} (h : t v (L2.wipe σ vs) H Q) : t v (L2.wipe σ vs) H (fun σ' H' => L2.wipe σ' vs = L2.wipe σ vs ∧ Q σ' H') := by
  have := ho.ok _ _ _ _ h
  simpa only [wipe_wipe] using this
theorem wipeD_out {ρ : DEnv} {i : Nat} : ∀ {vs : List Nat}, i ∉ vs → (wipeD ρ vs)[i]? = ρ[i]?
  | [], _ => rfl
  | v :: vs, h => by
    show ((wipeD ρ vs).set v none)[i]? = _
    rw [List.getElem?_set_ne (fun z => h (by simp [z])), wipeD_out fun z => h (List.mem_cons_of_mem _ z)]
theorem town_name {i : Nat} {vs : List Nat} (h : i ∈ vs := by decide) : TOwn (gName i) vs := ⟨fun v σ H Q q => ⟨wipe_set σ i (some v) vs h, q⟩⟩
structure TOwns (t : TGs) (vs : List Nat) : Prop where
  ok : ∀ v σ H Q, t v σ H Q → t v σ H (fun σ' H' => L2.wipe σ' vs = L2.wipe σ vs ∧ Q σ' H')
theorem towns_nil {vs : List Nat} : TOwns gNil vs := ⟨fun v σ H Q ⟨e, q⟩ => ⟨e, rfl, q⟩⟩
theorem towns_cons {t : TG} {u : TGs} {vs : List Nat} (ht : TOwn t vs) (hu : TOwns u vs) (mono : ∀ v σ H (Q Q' : L2.St → Hp → Prop), (∀ σ' H', Q σ' H' → Q' σ' H') → t v σ H Q → t v σ H Q') (monos : ∀ v σ H (Q Q' : L2.St → Hp → Prop), (∀ σ' H', Q σ' H' → Q' σ' H') → u v σ H Q → u v σ H Q') : TOwns (gCons t u) vs :=
  ⟨fun v σ H Q ⟨x, r, e, q⟩ => ⟨x, r, e, mono _ _ _ _ _ (fun σ1 H1 ⟨h1, h2⟩ => monos _ _ _ _ _ (fun σ2 H2 ⟨h3, h4⟩ => ⟨h3.trans h1, h4⟩) (hu.ok r σ1 H1 Q h2)) (ht.ok x σ H _ q)⟩⟩
theorem mono_name {i : Nat} : ∀ v σ H (Q Q' : L2.St → Hp → Prop), (∀ σ' H', Q σ' H' → Q' σ' H') → gName i v σ H Q → gName i v σ H Q' := fun v σ H Q Q' h q => h _ _ q
theorem mono_nil : ∀ v σ H (Q Q' : L2.St → Hp → Prop), (∀ σ' H', Q σ' H' → Q' σ' H') → gNil v σ H Q → gNil v σ H Q' := fun v σ H Q Q' h ⟨e, q⟩ => ⟨e, h _ _ q⟩
theorem mono_cons {t : TG} {u : TGs} (mt : ∀ v σ H (Q Q' : L2.St → Hp → Prop), (∀ σ' H', Q σ' H' → Q' σ' H') → t v σ H Q → t v σ H Q') (mu : ∀ v σ H (Q Q' : L2.St → Hp → Prop), (∀ σ' H', Q σ' H' → Q' σ' H') → u v σ H Q → u v σ H Q') :
    ∀ v σ H (Q Q' : L2.St → Hp → Prop), (∀ σ' H', Q σ' H' → Q' σ' H') → gCons t u v σ H Q → gCons t u v σ H Q' := fun v σ H Q Q' h ⟨x, r, e, q⟩ => ⟨x, r, e, mt _ _ _ _ _ (fun σ1 H1 q1 => mu _ _ _ _ _ h q1) q⟩
theorem town_tup {K : PySem.W.Frag} {n : Nat} {u : TGs} {vs : List Nat} (h : TOwns u vs) : TOwn (gTup K n u) vs := ⟨fun v σ H Q ⟨a, xs, e, q1, q2, q⟩ => ⟨a, xs, e, q1, q2, h.ok _ _ _ _ q⟩⟩

/-- the tests of a comprehension -/
structure DCs (X : Cx) (W : WZ) (O : List Nat) (ifs : List Expr) (f : EF) : Prop where
  pts : PTs X ifs (rdT X.K W.no O f)
theorem dcs_nil {X : Cx} {W : WZ} {O : List Nat} : DCs X W O [] eYes := ⟨⟨fun pins s σ H Q I h => pts_nil.run pins s σ H Q I (by
  obtain ⟨ent, w, ρ, S, r, b, e, p⟩ := h
  cases e
  exact p H w (.refl _ _) r.gd)⟩⟩
theorem dcs_one {X : Cx} {W : WZ} {O : List Nat} {c : Expr} {f : EF} (h : DT X W.no O c f) : DCs X W O [c] f := ⟨pts_one h.pt⟩

theorem lc_of {K : PySem.W.Frag} {W : WZ} {O vs : List Nat} {fi : IF} {g : GF} {t : TG} {fc fe : EF} (hgo : GOk K O g t) (ho : TOwn t vs) (hO : ∀ i, i ∈ vs → i ∉ O) :
    ∀ σ H Q, rd K .f W O (eLc vs fi g fc fe) σ H Q → tLc (rdI K W O fi) t (rdT K W.no O fc) (rd K .e W.no O fe) vs σ H Q := by
  rintro σ H Q ⟨ent, w, ρ, S, r, p⟩
  refine ⟨ent, w, ρ, S, r, ?_⟩
  unfold eLc at p
  cases e1 : fi ρ S with
  | stuck => rw [e1] at p; exact p
  | exn x S1 => rw [e1] at p; exact p
  | ok ds S1 =>
    rw [e1] at p
    intro J H1 w1 x1 g1 hJ hz L hL
    have r1 := (r.later x1 g1).wipe vs hO
    -- the invariant: the list so far stands at L
    refine ⟨fun i m H => m = ds.length - i ∧ i ≤ ds.length ∧ ∃ w2 acc S2, Ext w1 H1 w2 H ∧ Gd K w2 H S2 ∧ Own K w2 H (.lst acc) L ∧ acc.length ≤ i ∧ Post K .f w1 H1 W σ (lcD g fc fe (ds.drop i) acc (wipeD ρ vs) S2) Q, ⟨ds.length, by simp, Nat.zero_le _, w1, [], S1, Ext.newO w1 hL, g1.newO hL, ⟨g1.noneF hL, g1.nophi hL, [], upd_same, .nil⟩, Nat.le_refl _, by simpa using Post.later (r := lcD g fc fe ds [] (wipeD ρ vs) S1) x1 p⟩, ?_⟩
    rintro i m H2 ⟨rfl, hi, w2, acc, S2, x2, g2, o2, hl2, p2⟩
    obtain ⟨j1, j2⟩ := hJ w2 H2 S2 i x2.le g2
    by_cases hlt : i < ds.length
    · obtain ⟨jg, jy⟩ := j1 ds[i] (List.getElem?_eq_getElem hlt)
      refine .inr ⟨jg, fun H' => ∃ w' acc' S', Ext w1 H1 w' H' ∧ Gd K w' H' S' ∧ Own K w' H' (.lst acc') L ∧ acc'.length ≤ i + 1 ∧ Post K .f w1 H1 W σ (lcD g fc fe (ds.drop (i + 1)) acc' (wipeD ρ vs) S') Q,
        fun H' ⟨w', acc', S', q1, q2, q3, q4, q5⟩ => ⟨ds.length - (i + 1), by omega, rfl, hlt, w', acc', S', q1, q2, q3, q4, q5⟩, fun x H3 y => ?_⟩
      obtain ⟨w3, x3, g3, z3⟩ := jy x H3 y
      rw [List.drop_eq_getElem_cons hlt] at p2
      unfold lcD at p2
      have r3 : R K ent O w3 H3 (L2.wipe σ vs) (wipeD ρ vs) S2 := r1.later (x2.trans x3) g3
      cases e2 : g ds[i] (wipeD ρ vs) with
      | none => rw [e2] at p2; exact p2.elim
      | some ρ3 =>
        rw [e2] at p2
        dsimp only at p2
        refine ho.wiped (hgo.ok r3 z3 e2 fun σ3 s3' r3' => ?_)
        refine ⟨ent, w3, ρ3, S2, r3', ?_⟩
        have o3 : Own K w3 H3 (.lst acc) L := o2.ext x3
        cases e3 : fc ρ3 S2 with
        | stuck => rw [e3] at p2; exact p2.elim
        | exn y S3 => rw [e3] at p2; exact p2.elim
        | ok c S3 =>
          rw [e3] at p2
          cases c with
          | bl b =>
            refine ⟨b, rfl, fun H4 w4 x4 g4 => ?_⟩
            cases b with
            | false =>
              rw [if_neg Bool.false_ne_true]
              exact ⟨w4, acc, S3, x2.trans (x3.trans x4), g4, o3.ext x4, Nat.le_succ_of_le hl2, p2⟩
            | true =>
              rw [if_pos rfl]
              dsimp only at p2
              refine ⟨ent, w4, ρ3, S3, r3'.later x4 g4, ?_⟩
              cases e4 : fe ρ3 S3 with
              | stuck => rw [e4] at p2; exact p2.elim
              | exn y S4 => rw [e4] at p2; exact p2.elim
              | ok d S4 =>
                rw [e4] at p2
                intro v H5 w5 x5 g5 z5
                have o5 : Own K w5 H5 (.lst acc) L := (o3.ext x4).ext x5
                obtain ⟨f1, f2, us, f3, f4⟩ := o5
                refine ⟨us, f3, ?_, w5, acc ++ [d], S4, (x2.trans (x3.trans (x4.trans x5))).updO hL, g5.updO f1 f2 (pd_lst f3), ⟨f1, f2, _, upd_same, f4.append (.cons z5 .nil)⟩, by simp; omega, p2⟩
                rw [← f4.length]; omega
          | _ => exact p2.elim
    · have ei : i = ds.length := by omega
      subst ei
      refine .inl ⟨j2 rfl, ?_⟩
      rw [List.drop_length] at p2
      exact p2 _ H2 w2 x2 g2 ⟨L, rfl, hL, o2⟩
section
variable {X : Cx} {W : WZ} {O : List Nat} {elt tg iter : Expr} {ifs : List Expr} {scope : Scope} {own : List (Str × Nat)} {pos : Pos} {fi : IF} {g : GF} {t : TG} {fc fe : EF}
theorem de_lc (hN : X.N.Nodup) (ok : BlkOk X.N X.env.scope scope own) (hi : DI X W O tg iter fi)
    (hgo : GOk X.K O g t) (hg : ∀ (s : Shared) (H : Hp) (C : Addr) (cl : List (Str × Addr)) (fp : List Addr), PG (X.blk s H scope (compEnvC scope cl C X.env) fp) tg t) (ho : TOwn t (own.map (·.2)))
    (ht : ∀ (s : Shared) (H : Hp) (C : Addr) (cl : List (Str × Addr)) (fp : List Addr), DCs (X.blk s H scope (compEnvC scope cl C X.env) fp) W O ifs fc)
    (he : ∀ (s : Shared) (H : Hp) (C : Addr) (cl : List (Str × Addr)) (fp : List Addr), DE .e (X.blk s H scope (compEnvC scope cl C X.env) fp) W.no O elt fe)
    (hO : ∀ i, i ∈ own.map (·.2) → i ∉ O := by decide) (hc : X.calm = true := by rfl) (hs : ∀ x, foldedSetIterable iter X.env x = pure x := by intro _; rfl) :
    DE .f X W O (.ListComp elt [⟨tg, iter, ifs, 0⟩] scope pos) (eLc (own.map (·.2)) fi g fc fe) :=
  ⟨(pe_lc (pos := pos) (tt := rdT X.K W.no O fc) (te := rd X.K .e W.no O fe) hc hN hi.pi ok hg (fun s H C cl fp => (ht s H C cl fp).pts) (fun s H C cl fp => (he s H C cl fp).pe) hs).imp (lc_of hgo ho hO)⟩
/-- name = [..] on one line -/
theorem ps_lcs {i : Nat} {y : Str} {py spos : Pos} (hN : X.N.Nodup) (ok : BlkOk X.N X.env.scope scope own) (hi : DI X W O tg iter fi)
    (hg : ∀ (s : Shared) (H : Hp) (C : Addr) (cl : List (Str × Addr)) (fp : List Addr), PG (X.blk s H scope (compEnvC scope cl C X.env) fp) tg t)
    (ht : ∀ (s : Shared) (H : Hp) (C : Addr) (cl : List (Str × Addr)) (fp : List Addr), DCs (X.blk s H scope (compEnvC scope cl C X.env) fp) W O ifs fc)
    (he : ∀ (s : Shared) (H : Hp) (C : Addr) (cl : List (Str × Addr)) (fp : List Addr), DE .e (X.blk s H scope (compEnvC scope cl C X.env) fp) W.no O elt fe)
    (hy : X.N[i]? = some y) (hyl : X.env.scope.names.lookup y = some .local) (hsw : swapsWith (.ListComp elt [⟨tg, iter, ifs, 0⟩] scope pos) (some (.Name y py)) spos.line X.env = pure true) (hc : X.calm = true) (hs : ∀ x, foldedSetIterable iter X.env x = pure x) :
    PS X (.Assign [.Name y py] (.ListComp elt [⟨tg, iter, ifs, 0⟩] scope pos) spos) (tAsg (tLc (rdI X.K W O fi) t (rdT X.K W.no O fc) (rd X.K .e W.no O fe) (own.map (·.2))) (gName i)) :=
  ps_setLc (tt := rdT X.K W.no O fc) (te := rd X.K .e W.no O fe) hc hN hy hyl hsw hi.pi ok hg (fun s H C cl fp => (ht s H C cl fp).pts) (fun s H C cl fp => (he s H C cl fp).pe) hs
end
theorem setF_of {K : PySem.W.Frag} {L : Lp} {W : WZ} {O : List Nat} {fe : EF} {i : Nat} (hO : i ∉ O) : ∀ En σ H, rdS K L W O O (sSet i fe) En σ H → tAsg (rd K .f W O fe) (gName i) En σ H := by
  rintro En σ H ⟨ent, w, ρ, S, r, p⟩
  refine ⟨ent, w, ρ, S, r, SPost.bind r p ?_⟩
  rintro d S1 v H1 w1 x g1 ⟨a, rfl, n, o⟩ q
  have r2 : R K ent O (w1.fix H1 a) H1 σ ρ S1 := r.later (x.fix o.1 n) (g1.fix o.1 o.2.1 fun _ => o.notbl)
  exact q _ H1 _ (r2.put hO o.rep)
section
variable {X : Cx} {W : WZ} {O : List Nat} {elt tg iter : Expr} {ifs : List Expr} {scope : Scope} {own : List (Str × Nat)} {pos : Pos} {fi : IF} {g : GF} {t : TG} {fc fe : EF}
theorem ds_lcSet (i : Nat) {L : Lp} {y : Str} {py spos : Pos} (hN : X.N.Nodup) (ok : BlkOk X.N X.env.scope scope own) (hi : DI X W O tg iter fi)
    (hgo : GOk X.K O g t) (hg : ∀ (s : Shared) (H : Hp) (C : Addr) (cl : List (Str × Addr)) (fp : List Addr), PG (X.blk s H scope (compEnvC scope cl C X.env) fp) tg t) (ho : TOwn t (own.map (·.2)))
    (ht : ∀ (s : Shared) (H : Hp) (C : Addr) (cl : List (Str × Addr)) (fp : List Addr), DCs (X.blk s H scope (compEnvC scope cl C X.env) fp) W O ifs fc)
    (he : ∀ (s : Shared) (H : Hp) (C : Addr) (cl : List (Str × Addr)) (fp : List Addr), DE .e (X.blk s H scope (compEnvC scope cl C X.env) fp) W.no O elt fe)
    (hsw : swapsWith (.ListComp elt [⟨tg, iter, ifs, 0⟩] scope pos) (some (.Name y py)) spos.line X.env = pure true) (hyl : X.env.scope.names.lookup y = some .local := by rfl)
    (hO : ∀ i, i ∈ own.map (·.2) → i ∉ O := by decide) (hiO : i ∉ O := by decide) (hy : X.N[i]? = some y := by rfl) (hc : X.calm = true := by rfl) (hs : ∀ x, foldedSetIterable iter X.env x = pure x := by intro _; rfl) :
    DS X W L O (.Assign [.Name y py] (.ListComp elt [⟨tg, iter, ifs, 0⟩] scope pos) spos) O (sSet i (eLc (own.map (·.2)) fi g fc fe)) :=
  ⟨(ps_lcs hN ok hi hg ht he hy hyl hsw hc hs).imp fun En σ H h => lc_of hgo ho hO σ H _ (setF_of hiO En σ H h)⟩
end

/-! ### two clauses -/
theorem lc2_of {K : PySem.W.Frag} {W : WZ} {O vs vs1 : List Nat} {fi fi1 : IF} {g gg : GF} {t t1 : TG} {fc fc1 fe : EF} (hgo : GOk K O g t) (ho : TOwn t vs) (hgo1 : GOk K O gg t1) (ho1 : TOwn t1 vs1) (hO : ∀ i, i ∈ vs → i ∉ O) (hO1 : ∀ i, i ∈ vs1 → i ∉ O) :
    ∀ σ H Q, rd K .f W O (eLc2 vs vs1 fi g fc fi1 gg fc1 fe) σ H Q → tLc2 (rdI K W O fi) t (rdT K W.no O fc) (rdI K W.no O fi1) t1 (rdT K W.no O fc1) (rd K .e W.no O fe) vs vs1 σ H Q := by
  rintro σ H Q ⟨ent, w, ρ, S, r, p⟩
  refine ⟨ent, w, ρ, S, r, ?_⟩
  unfold eLc2 at p
  cases e1 : fi ρ S with
  | stuck => rw [e1] at p; exact p
  | exn x S1 => rw [e1] at p; exact p
  | ok ds S1 =>
    rw [e1] at p
    intro J H1 w1 x1 g1 hJ hz L hL
    have r1 := (r.later x1 g1).wipe vs hO
    refine ⟨fun i m H => m = ds.length - i ∧ i ≤ ds.length ∧ ∃ w2 acc S2, Ext w1 H1 w2 H ∧ Gd K w2 H S2 ∧ Own K w2 H (.lst acc) L ∧ Post K .f w1 H1 W σ (lcD2 g fc fi1 vs1 gg fc1 fe (ds.drop i) acc (wipeD ρ vs) S2) Q, ⟨ds.length, by simp, Nat.zero_le _, w1, [], S1, Ext.newO w1 hL, g1.newO hL, ⟨g1.noneF hL, g1.nophi hL, [], upd_same, .nil⟩, by simpa using Post.later (r := lcD2 g fc fi1 vs1 gg fc1 fe ds [] (wipeD ρ vs) S1) x1 p⟩, ?_⟩
    rintro i m H2 ⟨rfl, hi, w2, acc, S2, x2, g2, o2, p2⟩
    obtain ⟨j1, j2⟩ := hJ w2 H2 S2 i x2.le g2
    by_cases hlt : i < ds.length
    · obtain ⟨jg, jy⟩ := j1 ds[i] (List.getElem?_eq_getElem hlt)
      refine .inr ⟨jg, fun H' => ∃ w' acc' S', Ext w1 H1 w' H' ∧ Gd K w' H' S' ∧ Own K w' H' (.lst acc') L ∧ Post K .f w1 H1 W σ (lcD2 g fc fi1 vs1 gg fc1 fe (ds.drop (i + 1)) acc' (wipeD ρ vs) S') Q,
        fun H' ⟨w', acc', S', q1, q2, q3, q5⟩ => ⟨ds.length - (i + 1), by omega, rfl, hlt, w', acc', S', q1, q2, q3, q5⟩, fun x H3 y => ?_⟩
      obtain ⟨w3, x3, g3, z3⟩ := jy x H3 y
      rw [List.drop_eq_getElem_cons hlt] at p2
      unfold lcD2 at p2
      have r3 : R K ent O w3 H3 (L2.wipe σ vs) (wipeD ρ vs) S2 := r1.later (x2.trans x3) g3
      cases e2 : g ds[i] (wipeD ρ vs) with
      | none => rw [e2] at p2; exact p2.elim
      | some ρ3 =>
        rw [e2] at p2
        dsimp only at p2
        refine ho.wiped (hgo.ok r3 z3 e2 fun σ3 s3' r3' => ?_)
        refine ⟨ent, w3, ρ3, S2, r3', ?_⟩
        have o3 : Own K w3 H3 (.lst acc) L := o2.ext x3
        cases e3 : fc ρ3 S2 with
        | stuck => rw [e3] at p2; exact p2.elim
        | exn y S3 => rw [e3] at p2; exact p2.elim
        | ok c S3 =>
          rw [e3] at p2
          cases c with
          | bl b =>
            refine ⟨b, rfl, fun H4 w4 x4 g4 => ?_⟩
            cases b with
            | false =>
              rw [if_neg Bool.false_ne_true]
              exact ⟨w4, acc, S3, x2.trans (x3.trans x4), g4, o3.ext x4, p2⟩
            | true =>
              rw [if_pos rfl]
              dsimp only at p2
              refine ⟨ent, w4, ρ3, S3, r3'.later x4 g4, ?_⟩
              cases e4 : fi1 ρ3 S3 with
              | stuck => rw [e4] at p2; exact p2.elim
              | exn y S4 => rw [e4] at p2; exact p2.elim
              | ok es S4 =>
                rw [e4] at p2
                intro J1 H5 w5 x5 g5 hJ1 hz1
                have o5 : Own K w5 H5 (.lst acc) L := (o3.ext x4).ext x5
                have r5 := ((r3'.later x4 g4).later x5 g5).wipe vs1 hO1
                -- the inner loop
                have entL : Nb (ent.H L) := by
                  exact (r.ext.trans x1).there L (.inl hL)
                have nL : ∀ n, n ∈ O → (∃ d, (wipeD ρ3 vs1)[n]? = some (some d)) → (L2.wipe σ3 vs1)[n]? ≠ some (some (.ref L)) := fun n hn ⟨d, hd⟩ hs => by
                  obtain ⟨b, s1, s2, _⟩ := r5.own n d hd hn
                  rw [hs] at s1; cases s1
                  have s3 : (L2.wipe σ3 vs1)[n]? = σ3[n]? := by rw [wipe_get, if_neg (fun z => hO1 n z hn)]
                  have s4 : (L2.wipe σ vs)[n]? = σ[n]? := by rw [wipe_get, if_neg (fun z => hO n z hn)]
                  have s5 : σ[n]? = some (some (.ref L)) := by rw [← s4, ← s3' n hn, ← s3]; exact hs
                  obtain ⟨d0, hd0⟩ : ∃ d, ρ[n]? = some (some d) := ⟨d, by
                    rw [wipeD_out (fun z => hO1 n z hn), hgo.env _ _ _ e2 n hn, wipeD_out (fun z => hO n z hn)] at hd
                    exact hd⟩
                  obtain ⟨b, u1, u2, _⟩ := (r.later x1 g1).own n d0 hd0 hn
                  rw [s5] at u1; cases u1
                  exact u2.there hL
                refine ⟨fun j k H => k = es.length - j ∧ j ≤ es.length ∧ ∃ w6 acc6 S6, Ext w1 H1 w6 H ∧ Own K w6 H (.lst acc6) L ∧ R K ent O w6 H (L2.wipe σ3 vs1) (wipeD ρ3 vs1) S6 ∧ Le w5 w6 ∧
                    Post K .f w1 H1 W σ (match lcDs gg fc1 fe (es.drop j) acc6 (wipeD ρ3 vs1) S6 with
                      | .ok (.lst acc') S3 => lcD2 g fc fi1 vs1 gg fc1 fe (ds.drop (i + 1)) acc' (wipeD ρ vs) S3
                      | _ => .stuck) Q, ⟨es.length, by simp, Nat.zero_le _, w5, acc, S4, x2.trans (x3.trans (x4.trans x5)), o5, r5, .refl _, by simpa using p2⟩, ?_⟩
                rintro j k H6 ⟨rfl, hj, w6, acc6, S6, x6, o6, r6, l6, p6⟩
                obtain ⟨k1, k2⟩ := hJ1 w6 H6 S6 j l6 r6.gd
                by_cases hlj : j < es.length
                · obtain ⟨kg, ky⟩ := k1 es[j] (List.getElem?_eq_getElem hlj)
                  refine .inr ⟨kg, fun H' => ∃ w6 acc6 S6, Ext w1 H1 w6 H' ∧ Own K w6 H' (.lst acc6) L ∧ R K ent O w6 H' (L2.wipe σ3 vs1) (wipeD ρ3 vs1) S6 ∧ Le w5 w6 ∧
                    Post K .f w1 H1 W σ (match lcDs gg fc1 fe (es.drop (j + 1)) acc6 (wipeD ρ3 vs1) S6 with
                      | .ok (.lst acc') S3 => lcD2 g fc fi1 vs1 gg fc1 fe (ds.drop (i + 1)) acc' (wipeD ρ vs) S3
                      | _ => .stuck) Q, fun H' ⟨w', acc', S', q1, q2, q3, q4, q5⟩ => ⟨es.length - (j + 1), by omega, rfl, hlj, w', acc', S', q1, q2, q3, q4, q5⟩, fun x' H7 y' => ?_⟩
                  obtain ⟨w7, x7, g7, z7⟩ := ky x' H7 y'
                  rw [List.drop_eq_getElem_cons hlj] at p6
                  unfold lcDs at p6
                  cases e5 : gg es[j] (wipeD ρ3 vs1) with
                  | none => rw [e5] at p6; exact p6.elim
                  | some ρ7 =>
                    rw [e5] at p6
                    dsimp only at p6
                    refine ho1.wiped (hgo1.ok (r6.later x7 g7) z7 e5 fun σ7 _ r7 => ?_)
                    refine ⟨ent, w7, ρ7, S6, r7, ?_⟩
                    cases e6 : fc1 ρ7 S6 with
                    | stuck => rw [e6] at p6; exact p6.elim
                    | exn y S7 => rw [e6] at p6; exact p6.elim
                    | ok c S7 =>
                      rw [e6] at p6
                      cases c with
                      | bl b =>
                        refine ⟨b, rfl, fun H8 w8 x8 g8 => ?_⟩
                        cases b with
                        | false =>
                          rw [if_neg Bool.false_ne_true]
                          exact ⟨w8, acc6, S7, x6.trans (x7.trans x8), (o6.ext x7).ext x8, (r6.later x7 g7).later x8 g8, l6.trans (x7.le.trans x8.le), p6⟩
                        | true =>
                          rw [if_pos rfl]
                          dsimp only at p6
                          refine ⟨ent, w8, ρ7, S7, r7.later x8 g8, ?_⟩
                          cases e7 : fe ρ7 S7 with
                          | stuck => rw [e7] at p6; exact p6.elim
                          | exn y S8 => rw [e7] at p6; exact p6.elim
                          | ok d S8 =>
                            rw [e7] at p6
                            dsimp only at p6
                            intro v H9 w9 x9 g9 z9
                            have o9 : Own K w9 H9 (.lst acc6) L := ((o6.ext x7).ext x8).ext x9
                            obtain ⟨f1, f2, us, f3, f4⟩ := o9
                            by_cases hlim : acc6.length < LIM
                            · rw [if_pos hlim] at p6
                              refine ⟨us, f3, by rw [← f4.length]; exact lim_size hlim, w9, acc6 ++ [d], S8, (x6.trans (x7.trans (x8.trans x9))).updO hL, ⟨f1, f2, _, upd_same, f4.append (.cons z9 .nil)⟩, ?_, l6.trans (x7.le.trans (x8.le.trans x9.le)), p6⟩
                              exact (((r6.later x7 g7).later x8 g8).later x9 g9).updL (fun fs z => by rw [f3] at z; cases z) f1 f2 (pd_lst f3) entL nL
                            · rw [if_neg hlim] at p6; exact p6.elim
                      | _ => exact p6.elim
                · have ej : j = es.length := by omega
                  subst ej
                  refine .inl ⟨k2 rfl, ?_⟩
                  rw [List.drop_length] at p6
                  exact ⟨w6, acc6, S6, x6, r6.gd, o6, p6⟩
          | _ => exact p2.elim
    · have ei : i = ds.length := by omega
      subst ei
      refine .inl ⟨j2 rfl, ?_⟩
      rw [List.drop_length] at p2
      exact p2 _ H2 w2 x2 g2 ⟨L, rfl, hL, o2⟩
end DL

/-! while; defs and calls; own lists and dicts changed -/
namespace DL
open PySem PySem.Spec PyProof.Rows L2

/-! ### while -/
section
variable {X : Cx} {W : WZ} {L : Lp} {O : List Nat} {c : Expr} {body : List Stmt} {fc : EF} {fb : SF} {pos : Pos}
end

/-! ### defs -/
def PostF (K : PySem.W.Frag) (w : Wit) (H : Hp) (r : Res) (Q : VK) (E : XK) : Prop := match r with
  | .ok d S => ∀ v H' w', Ext w H w' H' → Gd K w' H' S → Rep K w' d v → Q v H'
  | .exn x S => ∀ cls dx H' w', Ext w H w' H' → Gd K w' H' S → RepX K w' H' x cls dx → E cls dx H'
  | .stuck => False
def spD (K : PySem.W.Frag) (n : Nat) (ff : FF) : Sp := fun vs H Q E => vs.length = n ∧ ∃ w S ds, Gd K w H S ∧ Reps K w ds vs ∧ PostF K w H (ff ds S) Q E
abbrev WE (E : XK) : WZ := ⟨fun cls d _ H => E cls d H, none, .e⟩
theorem fn_read {K : PySem.W.Frag} {N : List Str} {n : Nat} {fb : SF} {O' : List Nat} {vs : List V} {H : Hp} {Q : VK} {E : XK} (hn : n ≤ N.length) (h : spD K n (fnD N.length fb) vs H Q E) :
    rdS K ⟨[], []⟩ (WE E) [] O' fb { nx := fun _ H' => Q .non H', rt := Q } (L2.start N vs) H := by
  obtain ⟨hl, w, S, ds, g, rs, p⟩ := h
  have hd := rs.length
  refine ⟨(⟨w, H, w⟩ : Ent none), w, ds.map some ++ List.replicate (N.length - ds.length) none, S, ⟨g, .refl _ _, .refl _, fun i d e _ => ?_, fun i d e n => absurd n (by simp), fun i j a hi => absurd hi (by simp), ?_, fun z hz => (by cases hz), fun z hz => by cases hz⟩, ?_⟩
  · by_cases hi : i < ds.length
    · rw [List.getElem?_append_left (by simpa using hi), List.getElem?_map] at e
      cases e2 : ds[i]? with
      | none => rw [e2] at e; cases e
      | some d' =>
        rw [e2] at e; cases e
        obtain ⟨v, ev, rv⟩ := rs.get e2
        refine ⟨v, ?_, rv⟩
        unfold L2.start
        rw [List.getElem?_append_left (by rw [List.length_map, ← hd]; exact hi), List.getElem?_map, ev]; rfl
    · rw [List.getElem?_append_right (by simpa using hi)] at e
      have := List.mem_of_getElem? e
      rw [List.mem_replicate] at this
      exact absurd this.2 (by simp)
  · unfold L2.start; simp; omega
  · unfold fnD at p
    cases e : fb (ds.map some ++ List.replicate (N.length - ds.length) none) S with
    | nx ρ S1 => rw [e] at p; exact fun w1 H1 σ r => p .non H1 w1 r.ext r.gd .non
    | rt d S1 => rw [e] at p; exact fun v H1 w1 x g1 z => p v H1 w1 x g1 z
    | exn x ρ S1 => rw [e] at p; exact fun w1 H1 σ cls dx r h => p cls dx H1 w1 r.ext r.gd h
    | bk ρ S1 => rw [e] at p; exact p.elim
    | ct ρ S1 => rw [e] at p; exact p.elim
    | stuck => rw [e] at p; exact p.elim
section
variable {P : Program} {w : World} {K : PySem.W.Frag} {mg : Str → Option Value} {base : Heap} {x qual : Str} {params : Arguments} {body : List Stmt} {scope : Scope} {dvs : List V} {kws : List (Str × V)} {f : Addr} {fd : FuncData}
/-- a def keeps what its body's reading says -/
theorem fn_dl {N ps : List Str} {k : Nat} {fb : SF} {O' : List Nat} (F : FunD K x qual params body scope dvs kws f fd) (S : FnScope N ps scope) (hn : ps.length ≤ N.length)
    (hbody : ∀ (cdv : Value) (A : Around) (outer : List PySem.Env) (s : Shared) (H : Hp) (E : XK), Room k (A.deeper (envOfC qual scope s.heap.objs.size f cdv)) → DSs (cxOf (L2.CX P w) P w K mg base N qual scope f cdv A outer s H E) (WE E) ⟨[], []⟩ [] body O' fb) :
    FnOk P w K mg base (L2.CX P w) (k + 1) f fd ps (spD K ps.length (fnD N.length fb)) := by
  refine F.ok S (fun vs H Q E h => h.1) fun cdv A outer s H vs Q E hr h => ?_
  exact ⟨_, (hbody cdv A outer s H E hr).ps, fn_read hn h⟩
end
section
variable {X : Cx} {W : WZ} {O : List Nat} {k : Nat} {f : Addr} {fd : FuncData} {ps : List Str} {ff : FF} {x : Str} {p pos : Pos} {e : Expr} {es : List Expr} {fa : AF}
theorem PostF.post {K : PySem.W.Frag} {w : Wit} {H : Hp} {σ : L2.St} {r : Res} {Q : VK} (h : Post K .e w H W σ r Q) : PostF K w H r Q (fun cls dx H' => W.wx cls dx σ H') := by
  cases r with
  | ok d S => exact h
  | exn x S => exact h
  | stuck => exact h
theorem call_of {K : PySem.W.Frag} {n : Nat} (hlen : ∀ ρ S ds S1, fa ρ S = .ok ds S1 → ds.length = n) : ∀ σ H Q, rd K .e W O (eCall ff fa) σ H Q → tCallSD (spD K n ff) [] (fun σ cls dx H' => W.wx cls dx σ H') (rdA K (PRep K) W O fa) σ H Q := by
  rintro σ H Q ⟨ent, w, ρ, S, r, p⟩
  refine ⟨ent, w, ρ, S, r, ?_⟩
  unfold eCall at p
  cases e : fa ρ S with
  | stuck => rw [e] at p; exact p
  | exn x S1 => rw [e] at p; exact p
  | ok ds S1 =>
    rw [e] at p
    intro vs H1 w1 x1 g1 z
    have z : Reps K w1 ds vs := z
    rw [List.append_nil]
    exact ⟨by rw [← z.length]; exact hlen _ _ _ _ e, w1, S1, ds, g1, z, PostF.post (Post.later (r := ff ds S1) x1 p)⟩
theorem aCons_len {f : EF} {g : AF} {n : Nat} (h : ∀ ρ S ds S1, g ρ S = .ok ds S1 → ds.length = n) : ∀ ρ S ds S1, aCons f g ρ S = .ok ds S1 → ds.length = n + 1 := fun ρ S ds S1 e => by
  unfold aCons at e
  cases e1 : f ρ S with
  | stuck => rw [e1] at e; cases e
  | exn x S2 => rw [e1] at e; cases e
  | ok d S2 =>
    rw [e1] at e
    dsimp only at e
    cases e2 : g ρ S2 with
    | stuck => rw [e2] at e; cases e
    | exn x S3 => rw [e2] at e; cases e
    | ok es S3 => rw [e2] at e; cases e; simp [h _ _ _ _ e2]
theorem aNil_len : ∀ (ρ : DEnv) (S : Sto) ds S1, aNil ρ S = .ok ds S1 → ds.length = 0 := fun ρ S ds S1 e => by cases e; rfl
theorem de_call (F : FnOk X.prog X.w X.K X.mg X.base (L2.CX X.prog X.w) k f fd ps (spD X.K ps.length ff)) (hr : Room k X.A) (hm : X.mg x = some (.ref f)) (hk : PySem.W.keepIn X.K (.ref f) = true) (hb : Binds X.K fd ps []) (tk : Takes X W.wx) (ha : DA X W O (e :: es) fa)
    (hlen : ∀ ρ S ds S1, fa ρ S = .ok ds S1 → ds.length = ps.length) (hg : Gl X x := by rfl)
    (hdb : (x == ("__debug__" : Str)) = false := by decide) (he : starEach (e :: es) X.env = (false, eval e X.env) :: starEach es X.env := by rfl) (hpl : (backTo pos (starEach es X.env)).any (·.1) = false := by rfl) :
    DE .e X W O (.Call (.Name x p) (e :: es) [] pos) (eCall ff fa) :=
  ⟨(pe_callSD F hr hg hm hk hb .nil (fun σ => L2.passAt tk σ) ha.pa hdb he hpl).imp (call_of hlen)⟩
end
end DL

/-! operators on data -/
namespace DL
open PySem PySem.Spec PyProof.Rows L2

/-! ### plain data -/
theorem toPys_map : ∀ ds : List D, toPys ds = ds.map toPy
  | [] => by simp [toPys]
  | d :: ds => by simp [toPys, toPys_map ds]
mutual
theorem Rep.dp {K : PySem.W.Frag} {w : Wit} {H : Hp} (hs : ∀ a o, w.F a = some o → H a = some o) : ∀ {d : D} {v : V}, Rep K w d v → plD d = true → Dp K H v (toPy d)
  | _, _, .non, _ => by simp only [toPy]; exact .non
  | _, _, .bl b, _ => by simp only [toPy]; exact .bl b
  | _, _, .int b, _ => by simp only [toPy]; exact .int b
  | _, _, .str b, _ => by simp only [toPy]; exact .str b
  | _, _, .tup h r, p => by simp only [toPy]; exact .tup (SqT.of (hs _ _ h)) (Reps.dp hs r (by simpa [plD] using p))
  | _, _, .ctp h r, p => by simp only [toPy]; exact .tup (SqT.monoF none_le h) (Reps.dp hs r (by simpa [plD] using p))
  | _, _, .lst h r, p => by simp only [toPy]; exact .lst (SqL.monoF hs h) (Reps.dp hs r (by simpa [plD] using p))
  | _, _, .dK h r, p => absurd p (by simp [plD])
  | _, _, .dT h r, p => absurd p (by simp [plD])
  | _, _, .ins h r, p => absurd p (by simp [plD])
  | _, _, .obj h, p => absurd p (by simp [plD])
  | _, _, .cls c, p => absurd p (by simp [plD])
  | _, _, .dN h, p => absurd p (by simp [plD])
theorem Reps.dp {K : PySem.W.Frag} {w : Wit} {H : Hp} (hs : ∀ a o, w.F a = some o → H a = some o) : ∀ {ds : List D} {vs : List V}, Reps K w ds vs → plDs ds = true → DpAll K H vs (toPys ds)
  | _, _, .nil, _ => by simp only [toPys]; exact .nil
  | _, _, .cons h t, p => by
    simp only [plDs, Bool.and_eq_true] at p
    simp only [toPys]
    exact .cons (Rep.dp hs h p.1) (Reps.dp hs t p.2)
end
theorem Vw.dp {K : PySem.W.Frag} {w : Wit} {H : Hp} (hs : ∀ a o, w.F a = some o → H a = some o) {d : D} {v : V} (h : Vw K w H d v) (p : plD d = true) : Dp K H v (toPy d) := by
  cases h with
  | non => simp only [toPy]; exact .non
  | bl b => simp only [toPy]; exact .bl b
  | int b => simp only [toPy]; exact .int b
  | str b => simp only [toPy]; exact .str b
  | tup h r => simp only [toPy]; exact .tup (SqT.of (hs _ _ h)) (Reps.dp hs r (by simpa [plD] using p))
  | ctp h r => simp only [toPy]; exact .tup (SqT.monoF none_le h) (Reps.dp hs r (by simpa [plD] using p))
  | lst h r => simp only [toPy]; exact .lst h (Reps.dp hs r (by simpa [plD] using p))
  | _ => exact absurd p (by simp [plD])
theorem scal_of {K : PySem.W.Frag} {w : Wit} {H : Hp} {d1 d2 : D} {x y : V} (h1 : Vw K w H d1 x) (h2 : Vw K w H d2 y) (h : scalD d1 d2 = true) : scal x y = true ∧ decide (x = y) = eqD d1 d2 := by
  cases h1 <;> cases h2 <;> simp [scalD] at h <;> refine ⟨rfl, ?_⟩ <;> simp [eqD, toPy, PyData.eqv, dec_int, dec_str, dec_bl, Bool.beq_eq_decide_eq]
section
variable {X : Cx}
theorem op_eqd (hu : X.A.units + 64 < cLine) : OpR X (compareOp .Eq) (r2 X.K .e eqF) := by
  intro pins s σ H x y v u Q I rx ry ⟨w, S, d1, d2, d, g, k1, k2, e, q⟩
  have v1 := k1.vw g
  have v2 := k2.vw g
  unfold eqF at e
  split at e
  · rename_i hc
    cases e
    rcases hc with hc | ⟨s1, s2⟩
    · obtain ⟨a, b⟩ := scal_of v1 v2 hc
      exact op_eq pins s σ H x y v u Q I rx ry ⟨a, by rw [b]; exact q _ H w (.refl _ _) g (.bl _)⟩
    · have t1 := Bool.and_eq_true_iff.mp s1
      have t2 := Bool.and_eq_true_iff.mp s2
      exact op_eqD hu pins s σ H x y v u Q I rx ry ⟨_, _, v1.dp g.sub t1.1, v2.dp g.sub t2.1, t1.2, t2.2, q _ H w (.refl _ _) g (.bl _)⟩
  · cases e
theorem op_ned (hu : X.A.units + 64 < cLine) : OpR X (compareOp .NotEq) (r2 X.K .e neF) := by
  intro pins s σ H x y v u Q I rx ry ⟨w, S, d1, d2, d, g, k1, k2, e, q⟩
  have v1 := k1.vw g
  have v2 := k2.vw g
  unfold neF at e
  split at e
  · rename_i hc
    cases e
    rcases hc with hc | ⟨s1, s2⟩
    · obtain ⟨a, b⟩ := scal_of v1 v2 hc
      exact op_ne pins s σ H x y v u Q I rx ry ⟨a, by rw [b]; exact q _ H w (.refl _ _) g (.bl _)⟩
    · have t1 := Bool.and_eq_true_iff.mp s1
      have t2 := Bool.and_eq_true_iff.mp s2
      exact op_neD hu pins s σ H x y v u Q I rx ry ⟨_, _, v1.dp g.sub t1.1, v2.dp g.sub t2.1, t1.2, t2.2, q _ H w (.refl _ _) g (.bl _)⟩
  · cases e
end

/-! ### order -/
section
variable {X : Cx}
theorem op_ints {op : CmpOp} {f : Int → Int → Bool} (ho : OpR X (compareOp op) (rI0 fun i j => .bl (f i j))) : OpR X (compareOp op) (r2 X.K .e (iLt f)) := by
  intro pins s σ H x y v u Q I rx ry ⟨w, S, d1, d2, d, g, k1, k2, e, q⟩
  have v1 := k1.vw g
  have v2 := k2.vw g
  generalize deref S d1 = D1 at v1 e
  generalize deref S d2 = D2 at v2 e
  cases v1 <;> cases v2 <;> first
    | cases e
    | (simp only [iLt] at e; cases e)
  exact ho pins s σ H _ _ v u Q I rx ry ⟨_, _, rfl, rfl, q _ H w (.refl _ _) g (.bl _)⟩
theorem op_led : OpR X (compareOp .LtE) (r2 X.K .e (iLt fun i j => decide (i ≤ j))) := op_ints op_le
theorem op_gtd : OpR X (compareOp .Gt) (r2 X.K .e (iLt fun i j => decide (j < i))) := op_ints op_gt
theorem op_ged : OpR X (compareOp .GtE) (r2 X.K .e (iLt fun i j => decide (j ≤ i))) := op_ints op_ge
theorem op_lti : OpR X (compareOp .Lt) (r2 X.K .e (iLt fun i j => decide (i < j))) := op_ints op_lt
end

/-! ### arithmetic -/
def mulF : D → D → Option D
  | .int i, .int j => if (-(2 ^ 64) < j ∧ j < 2 ^ 64) then some (.int (i * j)) else none
  | _, _ => none
def divF : D → D → Option D
  | .int i, .int j => if 0 < j ∧ j < 1073741824 then some (.int (i / j)) else none
  | _, _ => none
def modF : D → D → Option D
  | .int i, .int j => if 0 < j then some (.int (i % j)) else none
  | _, _ => none
def powF : D → D → Option D
  | .int i, .int j => if 0 ≤ j ∧ j ≤ 1000000 ∧ i.natAbs < 2 ^ 64 then some (.int (i ^ j.toNat)) else none
  | _, _ => none
def negF : D → Option D
  | .int i => some (.int (-i))
  | _ => none
/-- list + list, by value -/
def rCatL (K : PySem.W.Frag) : R2 := fun x y H Q => ∃ l b xs zs, x = .ref l ∧ y = .ref b ∧ SqL K H l xs ∧ SqL K H b zs ∧ xs.length + zs.length ≤ sizeLine ∧ ∀ p, H p = none → Q (.ref p) (upd H p (.lst (xs ++ zs)))
section
variable {X : Cx}
theorem op_catL : OpR X (binaryOp .Add) (rCatL X.K) := by
  intro pins s σ H x y v u Q I rx ry ⟨l, b, xs, zs, ex, ey, h1, h2, hz, q⟩
  subst ex ey
  cases rx
  cases ry
  obtain ⟨its, r, ⟨⟨c1, dd1, dt1, sl1⟩, n, e, hc, hd, hdt⟩, z1⟩ := I.list h1
  obtain ⟨its2, r2, ⟨⟨c2, dd2, dt2, sl2⟩, n2, e2, hc2, hd2, hdt2⟩, z2⟩ := I.list h2
  simp only at hc hd hdt hc2 hd2 hdt2
  subst hc hd hdt hc2 hd2 hdt2
  have l1 := r.length
  have l2 := r2.length
  have ea : its.toArray ++ its2.toArray = (its ++ its2).toArray := by simp
  refine concat_meets ⟨_, e, rfl⟩ ⟨_, e2, rfl⟩ noFill_list_add seq_list_add PySem.F.slot_list_add PySem.F.entry_list_add (PySem.F.args_list_add_2 _ _)
    (list_addW l b its.toArray its2.toArray n n2 none none sl1 sl2 (by rw [List.size_toArray, List.size_toArray]; omega)) ⟨e, e2, ?_⟩
  rw [ea]
  exact ⟨.ref _, _, I.lnew (t' := s.toks) (r.append r2) (by rw [List.length_append]; exact hz), rfl, q _ I.fresh⟩
theorem op_addd : OpR X (binaryOp .Add) (r2 X.K .e addF) := by
  intro pins s σ H x y v u Q I rx ry ⟨w, S, d1, d2, d, g, k1, k2, e, q⟩
  have v1 := k1.vw g
  have v2 := k2.vw g
  generalize deref S d1 = D1 at v1 e
  generalize deref S d2 = D2 at v2 e
  cases v1 with
  | int i =>
    cases v2 with
    | int j => cases e; exact op_add pins s σ H _ _ v u Q I rx ry ⟨i, j, rfl, rfl, q _ H w (.refl _ _) g (.int _)⟩
    | _ => cases e
  | str a =>
    cases v2 with
    | str b =>
      simp only [addF] at e
      split at e
      · rename_i hl
        cases e
        exact op_add_str pins s σ H _ _ v u Q I rx ry ⟨a, b, rfl, rfl, Nat.le_of_lt (lim_size hl), q _ H w (.refl _ _) g (.str _)⟩
      · cases e
    | _ => cases e
  | @tup a1 vs1 ds1 h1 r1 =>
    cases v2 with
    | @tup a2 vs2 ds2 h2 r2 =>
      simp only [addF] at e
      split at e
      · rename_i hl
        cases e
        have e1 := r1.length
        have e2 := r2.length
        refine op_catA pins s σ H _ _ v u Q I rx ry ⟨a1, a2, vs1, vs2, rfl, rfl, SqT.of (g.sub _ _ h1), SqT.of (g.sub _ _ h2), by rw [← e1, ← e2]; exact Nat.le_of_lt (lim_size hl), fun hx => ?_, fun hx hy => ?_, fun hx hy p np => ?_⟩
        · have hd : ds1 = [] := List.eq_nil_of_length_eq_zero (by rw [e1, hx]; rfl)
          rw [hd] at q
          exact q _ H w (.refl _ _) g (.tup h2 r2)
        · have hd : ds2 = [] := List.eq_nil_of_length_eq_zero (by rw [e2, hy]; rfl)
          rw [hd, List.append_nil] at q
          exact q _ H w (.refl _ _) g (.tup h1 r1)
        · exact q _ _ (w.new p (.tup (vs1 ++ vs2))) (Ext.newF g np) (g.new np) (.tup upd_same ((r1.append r2).mono (Le.new (g.noneF np))))
      · cases e
    | _ => cases e
  | @lst a1 vs1 ds1 h1 r1 =>
    cases v2 with
    | @lst a2 vs2 ds2 h2 r2 =>
      simp only [addF] at e
      split at e
      · rename_i hl
        cases e
        have e1 := r1.length
        have e2 := r2.length
        refine op_catL pins s σ H _ _ v u Q I rx ry ⟨a1, a2, vs1, vs2, rfl, rfl, h1, h2, by rw [← e1, ← e2]; exact Nat.le_of_lt (lim_size hl), fun p np => ?_⟩
        exact q _ _ (w.new p (.lst (vs1 ++ vs2))) (Ext.newF g np) (g.new np) (.lst (.inl (.inl upd_same)) ((r1.append r2).mono (Le.new (g.noneF np))))
      · cases e
    | _ => cases e
  | _ => cases v2 <;> cases e
/-- list + list, the new list nobody's -/
def catF : D → D → Option D
  | .lst a, .lst b => if a.length + b.length < LIM then some (.lst (a ++ b)) else none
  | _, _ => none
theorem op_catd : OpR X (binaryOp .Add) (r2 X.K .f catF) := by
  intro pins s σ H x y v u Q I rx ry ⟨w, S, d1, d2, d, g, k1, k2, e, q⟩
  have v1 := k1.vw g
  have v2 := k2.vw g
  generalize deref S d1 = D1 at v1 e
  generalize deref S d2 = D2 at v2 e
  cases v1 with
  | @lst a1 vs1 ds1 h1 r1 =>
    cases v2 with
    | @lst a2 vs2 ds2 h2 r2 =>
      simp only [catF] at e
      split at e
      · rename_i hl
        cases e
        have e1 := r1.length
        have e2 := r2.length
        refine op_catL pins s σ H _ _ v u Q I rx ry ⟨a1, a2, vs1, vs2, rfl, rfl, h1, h2, by rw [← e1, ← e2]; exact Nat.le_of_lt (lim_size hl), fun p np => ?_⟩
        exact q _ _ w (Ext.newO w np) (g.newO np) ⟨p, rfl, np, g.noneF np, g.nophi np, _, upd_same, r1.append r2⟩
      · cases e
    | _ => cases e
  | _ => cases v2 <;> cases e
theorem op_ints2 {op : Operator} {C : Int → Int → Prop} {f : Int → Int → Int} {gF : D → D → Option D} (ho : OpR X (binaryOp op) (rI C fun i j => .int (f i j))) (hg : ∀ x y d, gF x y = some d → ∃ i j, x = .int i ∧ y = .int j ∧ C i j ∧ d = .int (f i j)) : OpR X (binaryOp op) (r2 X.K .e gF) := by
  intro pins s σ H x y v u Q I rx ry ⟨w, S, d1, d2, d, g, k1, k2, e, q⟩
  have v1 := k1.vw g
  have v2 := k2.vw g
  obtain ⟨i, j, e1, e2, c, rfl⟩ := hg _ _ _ e
  rw [e1] at v1
  rw [e2] at v2
  cases v1
  cases v2
  exact ho pins s σ H _ _ v u Q I rx ry ⟨i, j, rfl, rfl, c, q _ H w (.refl _ _) g (.int _)⟩
theorem op_subd : OpR X (binaryOp .Sub) (r2 X.K .e subF) := by
  intro pins s σ H x y v u Q I rx ry ⟨w, S, d1, d2, d, g, k1, k2, e, q⟩
  have v1 := k1.vw g
  have v2 := k2.vw g
  generalize deref S d1 = D1 at v1 e
  generalize deref S d2 = D2 at v2 e
  cases v1 <;> cases v2 <;> cases e
  exact op_sub pins s σ H _ _ v u Q I rx ry ⟨_, _, rfl, rfl, q _ H w (.refl _ _) g (.int _)⟩
theorem op_muld : OpR X (binaryOp .Mult) (r2 X.K .e mulF) := op_ints2 op_mul fun x y d e => by
  cases x <;> cases y <;> simp only [mulF] at e <;> first
    | cases e
    | (split at e
       · rename_i hc; cases e; exact ⟨_, _, rfl, rfl, .inr hc, rfl⟩
       · cases e)
theorem op_divd : OpR X (binaryOp .FloorDiv) (r2 X.K .e divF) := op_ints2 op_fdiv fun x y d e => by
  cases x <;> cases y <;> simp only [divF] at e <;> first
    | cases e
    | (split at e
       · rename_i hc; cases e; exact ⟨_, _, rfl, rfl, hc, rfl⟩
       · cases e)
theorem op_modd : OpR X (binaryOp .Mod) (r2 X.K .e modF) := op_ints2 op_mod fun x y d e => by
  cases x <;> cases y <;> simp only [modF] at e <;> first
    | cases e
    | (split at e
       · rename_i hc; cases e; exact ⟨_, _, rfl, rfl, hc, rfl⟩
       · cases e)
theorem op_powd : OpR X (binaryOp .Pow) (r2 X.K .e powF) := op_ints2 op_pow fun x y d e => by
  cases x <;> cases y <;> simp only [powF] at e <;> first
    | cases e
    | (split at e
       · rename_i hc; cases e; exact ⟨_, _, rfl, rfl, hc, rfl⟩
       · cases e)
theorem un_negd : UnR X (unaryOp .USub) (r1 X.K .e negF) := by
  intro pins s σ H x v Q I rx ⟨w, S, d1, d, g, k1, e, q⟩
  have v1 := k1.vw g
  generalize deref S d1 = D1 at v1 e
  cases v1 <;> cases e
  exact un_neg pins s σ H _ v Q I rx ⟨_, rfl, q _ H w (.refl _ _) g (.int _)⟩
end
end DL

/-! subscripts, slices, in -/
namespace DL
open PySem PySem.Spec PyProof.Rows L2

/-! ### keys -/
theorem kOf_vw {K : PySem.W.Frag} {w : Wit} {H : Hp} {d : D} {v : V} {k : L2.Key} (h : Vw K w H d v) (e : kOf d = some k) : v = kV k := by
  cases h <;> simp [kOf] at e <;> subst e <;> rfl
theorem kOf_rep {K : PySem.W.Frag} {w : Wit} {d : D} {v : V} {k : L2.Key} (h : Rep K w d v) (e : kOf d = some k) : v = kV k := by
  cases h <;> simp [kOf] at e <;> subst e <;> rfl
theorem ksOf_reps {K : PySem.W.Frag} {w : Wit} {ds : List D} {vs : List V} (h : Reps K w ds vs) : ∀ {ks : List L2.Key}, ksOf ds = some ks → vs = ks.map kV := by
  induction ds generalizing vs with
  | nil => intro ks e; cases h; cases e; rfl
  | cons d ds ih =>
    intro ks e
    cases h with
    | cons h t =>
      simp only [ksOf] at e
      cases e1 : kOf d with
      | none => simp [e1] at e
      | some k =>
        cases e2 : ksOf ds with
        | none => simp [e1, e2] at e
        | some ks' => simp [e1, e2] at e; subst e; rw [kOf_rep h e1, ih t e2]; rfl
def OptRep (K : PySem.W.Frag) (w : Wit) : Option D → Option V → Prop
  | some d, some v => Rep K w d v
  | none, none => True
  | _, _ => False
theorem getK_rep {K : PySem.W.Frag} {w : Wit} {ds : List (D × D)} {vs : List (L2.Key × V)} (h : RepK K w ds vs) (k : L2.Key) : OptRep K w (getK ds k) (valV vs k) := by
  unfold getK valV
  induction ds generalizing vs with
  | nil => cases h; exact trivial
  | cons d ds ih =>
    cases h with
    | @cons k' d v ds vs h t =>
      rw [List.find?_cons, List.find?_cons]
      by_cases e : k' = k
      · subst e; simp [kOf_kD]; exact h
      · have e2 : ¬ (kOf (kD k') = some k) := by rw [kOf_kD]; simpa using e
        simp [e, e2]; simpa using ih t
theorem getT_rep {K : PySem.W.Frag} {w : Wit} {ds : List (D × D)} {vs : List (List L2.Key × V)} (h : RepT K w ds vs) (k : List L2.Key) : OptRep K w (getT ds k) (valV vs k) := by
  unfold getT valV
  induction ds generalizing vs with
  | nil => cases h; exact trivial
  | cons d ds ih =>
    cases h with
    | @cons k' d v ds vs h t =>
      rw [List.find?_cons, List.find?_cons]
      by_cases e : k' = k
      · subst e; simp [tOf, ksOf_kD]; exact h
      · have e2 : ¬ (tOf (.tup (k'.map kD)) = some k) := by simp only [tOf, ksOf_kD]; simpa using e
        simp [e, e2]; simpa using ih t
theorem look_of {K : PySem.W.Frag} {w : Wit} {H : Hp} {d1 d2 : D} {x y : V} {o : Option D} (hs : ∀ a o, w.F a = some o → H a = some o) (h1 : Vw K w H d1 x) (h2 : Vw K w H d2 y) (e : lookF d1 d2 = some o) : ∃ a o', x = .ref a ∧ DGet H a y o' ∧ OptRep K w o o' := by
  cases h1 with
  | @dK a vs ds h r =>
    simp only [lookF] at e
    cases e1 : kOf d2 with
    | none => rw [e1] at e; cases e
    | some k =>
      rw [e1] at e; cases e
      exact ⟨a, _, rfl, .inl ⟨vs, k, h, kOf_vw h2 e1, rfl⟩, getK_rep r k⟩
  | @dT a vs ds h r =>
    simp only [lookF] at e
    cases h2 with
    | @tup b us es hb rb =>
      simp only [tOf] at e
      cases e1 : ksOf es with
      | none => rw [e1] at e; cases e
      | some k =>
        rw [e1] at e; cases e
        exact ⟨a, _, rfl, .inr ⟨vs, k, b, .inl h, rfl, by rw [← ksOf_reps rb e1]; exact hs _ _ hb, rfl⟩, getT_rep r k⟩
    | _ => cases e
  | _ => cases e

/-! ### x[i] -/
theorem ixr_seq {X : Cx} : IxR X (r2 X.K .e ixS) := by
  intro value slice pins s σ H x y v u Q I rx ry ⟨w, S, d1, d2, d, g, k1, k2, e, q⟩ hs
  have v1 := k1.vw g
  have v2 := k2.vw g
  generalize deref S d1 = D1 at v1 e
  generalize deref S d2 = D2 at v2 e
  cases v1 with
  | @lst a vs ds h r =>
    cases v2 <;> first | cases e | skip
    obtain ⟨z, ez, rz⟩ := r.atI e
    exact ix_list value slice pins s σ H _ _ v u Q I rx ry ⟨a, vs, _, z, rfl, rfl, h, ez, q _ H w (.refl _ _) g rz⟩ hs
  | @tup a vs ds h r =>
    cases v2 <;> first | cases e | skip
    obtain ⟨z, ez, rz⟩ := r.atI e
    exact ix_tup value slice pins s σ H _ _ v u Q I rx ry ⟨a, vs, _, z, rfl, rfl, SqT.of (g.sub _ _ h), ez, q _ H w (.refl _ _) g rz⟩ hs
  | @ctp a vs ds h r =>
    cases v2 <;> first | cases e | skip
    obtain ⟨z, ez, rz⟩ := r.atI e
    exact ix_tup value slice pins s σ H _ _ v u Q I rx ry ⟨a, vs, _, z, rfl, rfl, SqT.monoF none_le h, ez, q _ H w (.refl _ _) g rz⟩ hs
  | str z =>
    cases v2 <;> first | cases e | skip
    simp only [ixS] at e
    split at e
    · rename_i hl
      cases e1 : L2.atI z.cps.toList _ with
      | none => rw [e1] at e; cases e
      | some c =>
        rw [e1] at e; cases e
        exact ix_str value slice pins s σ H _ _ v u Q I rx ry ⟨z, _, c, rfl, rfl, Nat.le_of_lt (lim_size hl), e1, q _ H w (.refl _ _) g (.str _)⟩ hs
    · cases e
  | _ => cases v2 <;> cases e
section
variable {X : Cx} {W : WZ} {O : List Nat} {a b : Expr} {fa fb : EF} {k ka kb : Kd} {pos : Pos}
theorem e2_or {K : PySem.W.Frag} {g g1 g2 : D → D → Option D} (h : ∀ x y, g x y = g1 x y ∨ g x y = g2 x y) : ∀ σ H Q, rd K k W O (e2 g fa fb) σ H Q → rd K k W O (e2 g1 fa fb) σ H Q ∨ rd K k W O (e2 g2 fa fb) σ H Q := by
  rintro σ H Q ⟨ent, w, ρ, S, r, p⟩
  have : e2 g fa fb ρ S = e2 g1 fa fb ρ S ∨ e2 g fa fb ρ S = e2 g2 fa fb ρ S := by
    unfold e2
    cases fa ρ S with
    | stuck => exact .inl rfl
    | exn x S1 => exact .inl rfl
    | ok d S1 =>
      simp only [Res.bind_ok]
      cases fb ρ S1 with
      | stuck => exact .inl rfl
      | exn x S1 => exact .inl rfl
      | ok d2 S2 =>
        simp only [Res.bind_ok]
        exact (h (deref S2 d) (deref S2 d2)).imp (fun z => by rw [z]) (fun z => by rw [z])
  exact this.imp (fun z => ⟨ent, w, ρ, S, r, by rw [← z]; exact p⟩) (fun z => ⟨ent, w, ρ, S, r, by rw [← z]; exact p⟩)
theorem dget_of {K : PySem.W.Frag} : ∀ σ H Q, rd K .e W O (e2 ixD fa fb) σ H Q → tDGet (rd K ka W O fa) (rd K kb W O fb) σ H Q := by
  rintro σ H Q ⟨ent, w, ρ, S, r, p⟩
  refine ⟨ent, w, ρ, S, r, p.bind fun d S1 v H1 w1 x g1 z p1 => ?_⟩
  refine ⟨ent, w1, ρ, S1, r.later x g1, p1.bind fun d2 S2 v2 H2 w2 x2 g2 z2 p2 => ?_⟩
  have v1 := (z.ext (H1 := H2) x2).vw g2
  have v2 := (z2.ext (H1 := H2) (.refl _ _)).vw g2
  cases e : ixD (deref S2 d) (deref S2 d2) with
  | none => rw [e] at p2; exact p2.elim
  | some d' =>
    rw [e] at p2
    unfold ixD at e
    cases e1 : lookF (deref S2 d) (deref S2 d2) with
    | none => rw [e1] at e; cases e
    | some o =>
      rw [e1] at e
      have eo : o = some d' := e
      subst eo
      obtain ⟨a, o', ex, dg, ro⟩ := look_of g2.sub v1 v2 e1
      cases o' with
      | none => exact ro.elim
      | some v' => exact ⟨a, v', ex, dg, p2 v' H2 w2 (.refl _ _) g2 ro⟩
theorem de_sub (hu : X.A.units + 64 < cLine) (ha : DE ka X W O a fa) (hb : DE kb X W O b fb) (hs : PlainIx b := by exact fun _ _ => rfl) : DE .e X W O (.Subscript a b pos) (e2 ixF fa fb) :=
  ⟨((pe_ix ixr_seq ha.pe hb.pe hs).or (pe_dget (by omega) ha.pe hb.pe hs)).imp fun σ H Q h => (e2_or (g1 := ixS) (g2 := ixD) (fun x y => by cases x <;> first | exact .inl rfl | exact .inr rfl) σ H Q h).imp (tOp_of σ H Q) (dget_of σ H Q)⟩
end

/-! ### slices -/
def PostO (K : PySem.W.Frag) (w : Wit) (H : Hp) (W : WZ) (σ : L2.St) (r : Res) (Q : Option Int → Hp → Prop) : Prop := match r with
  | .ok d S => ∃ o, optI d = some o ∧ ∀ H' w', Ext w H w' H' → Gd K w' H' S → Q o H'
  | .exn x S => ∀ cls dx H' w', Ext w H w' H' → Gd K w' H' S → RepX K w' H' x cls dx → W.wx cls dx σ H'
  | .stuck => False
def rdO (K : PySem.W.Frag) (W : WZ) (O : List Nat) (f : EF) : TO := fun σ H Q => ∃ (ent : Ent W.xc) (w : Wit) (ρ : DEnv) (S : Sto), R K ent O w H σ ρ S ∧ PostO K w H W σ (f ρ S) Q
structure DO (X : Cx) (W : WZ) (O : List Nat) (e : Option Expr) (f : EF) : Prop where
  po : PO X e (rdO X.K W O f)
theorem do_none {X : Cx} {W : WZ} {O : List Nat} : DO X W O none (eC .non) := ⟨po_none.imp fun σ H Q ⟨ent, w, ρ, S, r, p⟩ => by
  obtain ⟨o, e, p⟩ := p
  cases e
  exact p H w (.refl _ _) r.gd⟩
theorem do_some {X : Cx} {W : WZ} {O : List Nat} {e : Expr} {f : EF} {k : Kd} (h : DE k X W O e f) : DO X W O (some e) (e1 ptF f) := ⟨(po_some h.pe).imp fun σ H Q ⟨ent, w, ρ, S, r, p⟩ => by
  refine ⟨ent, w, ρ, S, r, ?_⟩
  unfold e1 at p
  cases e : f ρ S with
  | stuck => rw [e] at p; exact p
  | exn x S1 => rw [e] at p; exact p
  | ok d S1 =>
    rw [e] at p
    intro v H' w' x g z
    have vw := (z.ext (H1 := H') (.refl _ _)).vw g
    simp only [Res.bind_ok] at p
    generalize deref S1 d = d' at p vw
    cases vw with
    | int i =>
      obtain ⟨o, eo, p⟩ := p
      cases eo
      exact ⟨i, rfl, p H' w' x g⟩
    | _ => exact p.elim⟩
def rSl (K : PySem.W.Frag) (k : Kd) (g : D → Option Int → Option Int → Option D) : V → Option Int → Option Int → Hp → VK → Prop := fun x lo hi H Q => ∃ w S d1 d, Gd K w H S ∧ KP K .b H w H d1 x ∧ g (deref S d1) lo hi = some d ∧ ∀ v H' w', Ext w H w' H' → Gd K w' H' S → KP K k H w' H' d v → Q v H'
theorem Reps.cut {K : PySem.W.Frag} {w : Wit} {ds : List D} {vs : List V} (h : Reps K w ds vs) (lo hi : Option Int) : Reps K w (cutD ds lo hi) (cutV vs lo hi) := by
  unfold cutD cutV
  rw [h.length]
  exact (h.drop _).take _
theorem cut_whole {ds : List D} {lo hi : Option Int} (h1 : HT.sIx ds.length 0 lo = 0) (h2 : HT.sIx ds.length ds.length hi = ds.length) : cutD ds lo hi = ds := by
  unfold cutD; rw [h1, h2]; simp
theorem slr_e {X : Cx} : SlR X (rSl X.K .e slF) := by
  intro pins s σ H x v vl vu lo hi sl Q I rx hsl hl hh ⟨w, S, d1, d, g, k1, e, q⟩
  have v1 := k1.vw g
  generalize deref S d1 = D1 at v1 e
  cases v1 with
  | @lst a vs ds h r =>
    cases e
    exact sl_list pins s σ H _ v vl vu lo hi sl Q I rx hsl hl hh ⟨a, vs, rfl, h, fun p np => q _ _ (w.new p (.lst (cutV vs lo hi))) (Ext.newF g np) (g.new np) (.lst (.inl (.inl upd_same)) ((r.cut lo hi).mono (Le.new (g.noneF np))))⟩
  | @tup a vs ds h r =>
    cases e
    refine sl_tupA pins s σ H _ v vl vu lo hi sl Q I rx hsl hl hh ⟨a, vs, rfl, SqT.of (g.sub _ _ h), fun hc => ?_, fun _ p np => ?_⟩
    · rw [← r.length] at hc
      rw [cut_whole hc.1 hc.2] at q
      exact q _ H w (.refl _ _) g (.tup h r)
    · exact q _ _ (w.new p (.tup (cutV vs lo hi))) (Ext.newF g np) (g.new np) (.tup upd_same ((r.cut lo hi).mono (Le.new (g.noneF np))))
  | @ctp a vs ds h r =>
    simp only [slF] at e
    refine sl_tupA pins s σ H _ v vl vu lo hi sl Q I rx hsl hl hh ⟨a, vs, rfl, SqT.monoF none_le h, fun hc => ?_, fun hc p np => ?_⟩
    · rw [← r.length] at hc
      rw [if_pos (by simp [wholeD, hc.1, hc.2])] at e
      cases e
      exact q _ H w (.refl _ _) g (.ctp h r)
    · rw [← r.length] at hc
      rw [if_neg (by simpa [wholeD] using hc)] at e
      cases e
      exact q _ _ (w.new p (.tup (cutV vs lo hi))) (Ext.newF g np) (g.new np) (.tup upd_same ((r.cut lo hi).mono (Le.new (g.noneF np))))
  | str z =>
    simp only [slF] at e
    split at e
    · rename_i hl'
      cases e
      exact sl_str pins s σ H _ v vl vu lo hi sl Q I rx hsl hl hh ⟨z, rfl, Nat.le_of_lt (lim_size hl'), q _ H w (.refl _ _) g (.str _)⟩
    · cases e
  | _ => cases e
section
variable {X : Cx} {W : WZ} {O : List Nat} {e : Expr} {lo hi : Option Expr} {fa fl fh : EF} {k ka : Kd} {pos p2 : Pos} {g : D → Option Int → Option Int → Option D}
theorem de_slG (hr : SlR X (rSl X.K k g)) (ha : DE ka X W O e fa) (hl : DO X W O lo fl) (hh : DO X W O hi fh) : DE k X W O (.Subscript e (.Slice lo hi none p2) pos) (eSl g fa fl fh) := by
  refine ⟨(pe_slice hr ha.pe hl.po hh.po).imp ?_⟩
  rintro σ H Q ⟨ent, w, ρ, S, r, p⟩
  refine ⟨ent, w, ρ, S, r, p.bind fun d S1 v H1 w1 x g1 z p1 => ?_⟩
  refine ⟨ent, w1, ρ, S1, r.later x g1, ?_⟩
  cases e2 : fl ρ S1 with
  | stuck => rw [e2] at p1; exact p1
  | exn y S2 => rw [e2] at p1; exact p1
  | ok l S2 =>
    rw [e2] at p1
    simp only [Res.bind_ok] at p1
    cases el : optI l with
    | none => rw [el] at p1; exact p1.elim
    | some lo' =>
      rw [el] at p1
      refine ⟨lo', el, fun H2 w2 x2 g2 => ⟨ent, w2, ρ, S2, (r.later x g1).later x2 g2, ?_⟩⟩
      have p2 := Post.later x2 p1
      cases e3 : fh ρ S2 with
      | stuck => simp only [e3] at p2; exact p2
      | exn y S3 => simp only [e3] at p2; exact p2
      | ok h S3 =>
        simp only [e3, Res.bind_ok] at p2
        cases eh : optI h with
        | none => simp only [eh] at p2; exact p2.elim
        | some hi' =>
          simp only [eh] at p2
          refine ⟨hi', eh, fun H3 w3 x3 g3 => ?_⟩
          cases e4 : g (deref S3 d) lo' hi' with
          | none => rw [e4] at p2; exact p2.elim
          | some d' =>
            rw [e4] at p2
            exact ⟨w3, S3, d, d', g3, z.ext (x2.trans x3), e4, Post.later (r := .ok d' S3) x3 p2⟩
theorem de_sl (ha : DE ka X W O e fa) (hl : DO X W O lo fl) (hh : DO X W O hi fh) : DE .e X W O (.Subscript e (.Slice lo hi none p2) pos) (eSl slF fa fl fh) := de_slG slr_e ha hl hh
end

/-! ### in -/
theorem flat_of {K : PySem.W.Frag} {w : Wit} {H : Hp} {d : D} {v : V} (h : Vw K w H d v) (f : flatD d = true) : flatV v = true := by
  cases h <;> first | rfl | cases f
theorem flat_ofR {K : PySem.W.Frag} {w : Wit} {d : D} {v : V} (h : Rep K w d v) (f : flatD d = true) : flatV v = true := by
  cases h <;> first | rfl | cases f
theorem eqV_of {K : PySem.W.Frag} {w : Wit} {H : Hp} {d1 d2 : D} {x y : V} (h1 : Rep K w d1 x) (h2 : Vw K w H d2 y) (f1 : flatD d1 = true) (f2 : flatD d2 = true) : eqV x y = eqD d1 d2 := by
  cases h1 <;> first | cases f1 | skip
  all_goals (cases h2 <;> first | cases f2 | skip)
  all_goals simp [eqV, eqD, toPy, PyData.eqv]
theorem flats_of {K : PySem.W.Frag} {w : Wit} {ds : List D} {vs : List V} (h : Reps K w ds vs) (f : ds.all flatD = true) : vs.all flatV = true := by
  induction ds generalizing vs with
  | nil => cases h; rfl
  | cons d ds ih =>
    cases h with
    | cons h t =>
      simp only [List.all_cons, Bool.and_eq_true] at f ⊢
      exact ⟨flat_ofR h f.1, ih t f.2⟩
theorem inV_of {K : PySem.W.Frag} {w : Wit} {H : Hp} {d : D} {x : V} {ds : List D} {vs : List V} (h : Reps K w ds vs) (hx : Vw K w H d x) (fx : flatD d = true) (f : ds.all flatD = true) : inV x vs = ds.any fun y => eqD y d := by
  unfold inV
  induction ds generalizing vs with
  | nil => cases h; rfl
  | cons d ds ih =>
    cases h with
    | cons h t =>
      simp only [List.all_cons, Bool.and_eq_true] at f
      simp only [List.any_cons]
      rw [eqV_of h hx f.1 fx, ih t f.2]
def nV : Option Int → V
  | none => .non
  | some i => .int i
theorem nOf_vw {K : PySem.W.Frag} {w : Wit} {H : Hp} {d : D} {v : V} {k : Option Int} (h : Vw K w H d v) (e : nOf d = some k) : v = nV k := by
  cases h <;> simp [nOf] at e <;> subst e <;> rfl
theorem nV_is {P : Program} {w : World} {k : Option Int} {u : Value} (r : RelV (nV k) u) : (noneKind P w).is (dnK k) u = true := by
  cases k with
  | none =>
    obtain rfl : u = Value.none := r
    rfl
  | some i =>
    have r' : RelV (kV (.inl i)) u := r
    exact kV_is (P := P) (w := w) r'
theorem dnK_inj {j k : Option Int} : dnK j = dnK k ↔ j = k := by
  unfold dnK
  constructor
  · intro h
    cases j <;> cases k <;> simp at h ⊢
    exact h
  · rintro rfl; rfl
theorem dn_val (ks : List (Option Int)) (k : Option Int) : (valueAt (ks.map dnE) (dnK k)).isSome = decide (k ∈ ks) := by
  unfold valueAt
  rw [Option.isSome_map, Bool.eq_iff_iff, List.find?_isSome]
  constructor
  · rintro ⟨kv, hm, hd⟩
    obtain ⟨j, hj, rfl⟩ := List.mem_map.mp hm
    have e : dnK j = dnK k := of_decide_eq_true hd
    exact decide_eq_true (dnK_inj.mp e ▸ hj)
  · intro h
    exact ⟨dnE k, List.mem_map.mpr ⟨k, of_decide_eq_true h, rfl⟩, decide_eq_true rfl⟩
section
variable {X : Cx} {pins : List (Addr × Obj)} {σ : L2.St} {H : Hp} {s : Shared} {a : Addr} {ks : List (Option Int)} {k : Option Int} {u : Value} {A : Around} {E : Value → Shared → Prop} {Q : Value → Shared → Prop}
theorem n_in (I : L2.Inv X pins σ H s) (e : H a = some (DNo a ks)) (r : RelV (nV k) u) (h : ∀ s', L2.Inv X pins σ H s' → Q (.bool (decide (k ∈ ks))) s') : wpAny (model X.prog X.w) A (compareOp .In u (.ref a)) Q E s := by
  obtain ⟨hd, dd⟩ := dn_of (I.hok _ _ e)
  refine wpAny_in_of (nV_is r) hd dd.mapOf ?_
  rw [dn_val]
  exact h _ (I.tok _)
theorem n_notIn (I : L2.Inv X pins σ H s) (e : H a = some (DNo a ks)) (r : RelV (nV k) u) (h : ∀ s', L2.Inv X pins σ H s' → Q (.bool (!decide (k ∈ ks))) s') : wpAny (model X.prog X.w) A (compareOp .NotIn u (.ref a)) Q E s := by
  obtain ⟨hd, dd⟩ := dn_of (I.hok _ _ e)
  refine wpAny_notIn_of (nV_is r) hd dd.mapOf ?_
  rw [dn_val]
  exact h _ (I.tok _)
end
theorem any_toPy (ds : List D) (d : D) : ((toPys ds).any fun z => PyData.eqv z (toPy d)) = ds.any fun y => eqD y d := by
  rw [toPys_map]; simp [eqD, List.any_map]; rfl
/-- in a tuple, at any depth -/
def rInT (K : PySem.W.Frag) (neg : Bool) : R2 := fun x y H Q => ∃ d ds, Dp K H x d ∧ Dp K H y (.tuple ds) ∧ SeqAt.shaped d = true ∧ SeqAt.shaped (.tuple ds) = true ∧ Q (.bl (if neg then !ds.any fun z => PyData.eqv z d else ds.any fun z => PyData.eqv z d)) H
theorem shaped_tup {ds : List PyData} (h : SeqAt.shaped (.tuple ds) = true) : PyData.canLayAll0 ds = true ∧ PyData.depthAll ds + 1 ≤ 64 := by
  simp only [SeqAt.shaped, Bool.and_eq_true, decide_eq_true_eq, PyData.canLay0, PyData.depth] at h
  exact ⟨h.1, of_decide_eq_true h.2⟩
section
variable {X : Cx}
theorem op_inT (hu : X.A.units + 64 < cLine) : OpR X (compareOp .In) (rInT X.K false) := by
  intro pins s σ H x y v u Q I rx ry ⟨d, ds, hx, hy, s1, s2, q⟩
  obtain ⟨as, r1⟩ := Dp.reads I _ _ _ hx rx
  obtain ⟨bs, r2⟩ := Dp.reads I _ _ _ hy ry
  have s2' := shaped_tup s2
  have s1' := Bool.and_eq_true_iff.mp s1
  have s1d : d.depth ≤ 64 := by simpa using s1'.2
  exact SeqAt.in_tuple_reads r2 r1 s2'.1 s1'.1 (by have := Nat.min_le_left (PyData.depthAll ds) d.depth; have := s2'.2; omega) ⟨.bl _, H, I, rfl, q⟩
theorem op_notInT (hu : X.A.units + 64 < cLine) : OpR X (compareOp .NotIn) (rInT X.K true) := by
  intro pins s σ H x y v u Q I rx ry ⟨d, ds, hx, hy, s1, s2, q⟩
  obtain ⟨as, r1⟩ := Dp.reads I _ _ _ hx rx
  obtain ⟨bs, r2⟩ := Dp.reads I _ _ _ hy ry
  have s2' := shaped_tup s2
  have s1' := Bool.and_eq_true_iff.mp s1
  exact SeqAt.notIn_tuple_reads r2 r1 s2'.1 s1'.1 (by have := Nat.min_le_left (PyData.depthAll ds) d.depth; have := s2'.2; omega) ⟨.bl _, H, I, rfl, q⟩
theorem inSq_of {K : PySem.W.Frag} {w : Wit} {H : Hp} {dx : D} {x : V} {ds : List D} {vs : List V} {b : Bool} (h : Reps K w ds vs) (hx : Vw K w H dx x) (e : inSq dx ds = some b) :
    (flatV x = true ∧ vs.all flatV = true ∧ inV x vs = b) ∨ (shD dx = true ∧ shD (.lst ds) = true ∧ ((toPys ds).any fun z => PyData.eqv z (toPy dx)) = b) := by
  unfold inSq at e
  split at e
  · rename_i hc
    cases e
    rcases hc with hc | hc
    · have := Bool.and_eq_true_iff.mp hc
      exact .inl ⟨flat_of hx this.1, flats_of h this.2, inV_of h hx this.1 this.2⟩
    · have := Bool.and_eq_true_iff.mp hc
      exact .inr ⟨this.1, this.2, any_toPy ds dx⟩
  · cases e
theorem sh_lst_tup {ds : List D} (h : shD (.lst ds) = true) : shD (.tup ds) = true := by
  simp only [shD, plD, toPy, SeqAt.shaped, PyData.canLay0, PyData.depth] at h ⊢
  exact h
theorem sh_lst_ctp {ds : List D} (h : shD (.lst ds) = true) : shD (.ctp ds) = true := by
  simp only [shD, plD, toPy, SeqAt.shaped, PyData.canLay0, PyData.depth] at h ⊢
  exact h
theorem op_inG (hu : X.A.units + 65 < cLine) (neg : Bool) (op : CmpOp) (h1 : OpR X (compareOp op) (rIn X.K neg))
    (h2 : OpR X (compareOp op) (fun x y H Q => ∃ d ds, Dp X.K H x d ∧ Dp X.K H y (.list ds) ∧ SeqAt.shaped d = true ∧ SeqAt.shaped (.list ds) = true ∧ Q (.bl (if neg then !ds.any fun z => PyData.eqv z d else ds.any fun z => PyData.eqv z d)) H))
    (h3 : OpR X (compareOp op) (rInT X.K neg))
    (h4 : ∀ {pins : List (Addr × Obj)} {σ : L2.St} {H : Hp} {s : Shared} {a : Addr} {y : V} {u : Value} {o : Option V} {Q : Value → Shared → Prop}, L2.Inv X pins σ H s → DGet H a y o → L2.RelV y u → (∀ s', L2.Inv X pins σ H s' → Q (Value.bool (if neg then !o.isSome else o.isSome)) s') → wpAny (model X.prog X.w) X.A (compareOp op u (Value.ref a)) Q X.xe s)
    (h5 : ∀ {pins : List (Addr × Obj)} {σ : L2.St} {H : Hp} {s : Shared} {a : Addr} {ks : List (Option Int)} {k : Option Int} {u : Value} {Q : Value → Shared → Prop}, L2.Inv X pins σ H s → H a = some (DNo a ks) → RelV (nV k) u → (∀ s', L2.Inv X pins σ H s' → Q (Value.bool (if neg then !decide (k ∈ ks) else decide (k ∈ ks))) s') → wpAny (model X.prog X.w) X.A (compareOp op u (Value.ref a)) Q X.xe s) :
    OpR X (compareOp op) (r2 X.K .e fun x y => (inB x y).map fun b => .bl (if neg then !b else b)) := by
  intro pins s σ H x y v u Q I rx ry ⟨w, S, d1, d2, d, g, k1, k2, e, q⟩
  have v1 := k1.vw g
  have v2 := k2.vw g
  generalize deref S d1 = D1 at v1 e
  generalize deref S d2 = D2 at v2 e
  dsimp only at e
  cases eb : inB D1 D2 with
  | none => rw [eb] at e; cases e
  | some b =>
    rw [eb] at e
    have hb : d = .bl (if neg then !b else b) := by simpa using e.symm
    subst hb
    have dict : ∀ kd, D2 = kd → (lookF kd D1).map (·.isSome) = some b → wpAny (model X.prog X.w) X.A (compareOp op v u) (EP X pins σ Q) X.xe s := by
      rintro kd rfl el
      cases eo : lookF D2 D1 with
      | none => rw [eo] at el; cases el
      | some o =>
        rw [eo] at el
        have ei : o.isSome = b := by simpa using el
        obtain ⟨a, o', ea, dg, ro⟩ := look_of g.sub v2 v1 eo
        subst ea
        have eu : u = .ref a := ry
        subst eu
        refine h4 I dg rx fun s' I' => ⟨.bl _, H, I', rfl, ?_⟩
        have : o'.isSome = b := by
          rw [← ei]
          cases o <;> cases o' <;> first | rfl | exact ro.elim
        rw [this]
        exact q _ H w (.refl _ _) g (.bl _)
    cases v2 with
    | @lst a vs ds h r =>
      rcases inSq_of r v1 eb with ⟨f1, f2, f3⟩ | ⟨f1, f2, f3⟩
      · exact h1 pins s σ H _ _ v u Q I rx ry ⟨a, vs, rfl, .inl h, f1, f2, by rw [f3]; exact q _ H w (.refl _ _) g (.bl _)⟩
      · have t1 := Bool.and_eq_true_iff.mp f1
        have t2 := Bool.and_eq_true_iff.mp f2
        refine h2 pins s σ H _ _ v u Q I rx ry ⟨_, toPys ds, v1.dp g.sub t1.1, .lst h (Reps.dp g.sub r (by simpa [plD] using t2.1)), t1.2, by simpa [toPy] using t2.2, ?_⟩
        rw [f3]
        exact q _ H w (.refl _ _) g (.bl _)
    | @tup a vs ds h r =>
      rcases inSq_of r v1 eb with ⟨f1, f2, f3⟩ | ⟨f1, f2, f3⟩
      · exact h1 pins s σ H _ _ v u Q I rx ry ⟨a, vs, rfl, .inr (SqT.of (g.sub _ _ h)), f1, f2, by rw [f3]; exact q _ H w (.refl _ _) g (.bl _)⟩
      · have t1 := Bool.and_eq_true_iff.mp f1
        have t2 := Bool.and_eq_true_iff.mp (sh_lst_tup f2)
        refine h3 pins s σ H _ _ v u Q I rx ry ⟨_, toPys ds, v1.dp g.sub t1.1, .tup (SqT.of (g.sub _ _ h)) (Reps.dp g.sub r (by simpa [plD] using t2.1)), t1.2, by simpa [toPy] using t2.2, ?_⟩
        rw [f3]
        exact q _ H w (.refl _ _) g (.bl _)
    | @ctp a vs ds h r =>
      rcases inSq_of r v1 eb with ⟨f1, f2, f3⟩ | ⟨f1, f2, f3⟩
      · exact h1 pins s σ H _ _ v u Q I rx ry ⟨a, vs, rfl, .inr (SqT.monoF none_le h), f1, f2, by rw [f3]; exact q _ H w (.refl _ _) g (.bl _)⟩
      · have t1 := Bool.and_eq_true_iff.mp f1
        have t2 := Bool.and_eq_true_iff.mp (sh_lst_ctp f2)
        refine h3 pins s σ H _ _ v u Q I rx ry ⟨_, toPys ds, v1.dp g.sub t1.1, .tup (SqT.monoF none_le h) (Reps.dp g.sub r (by simpa [plD] using t2.1)), t1.2, by simpa [toPy] using t2.2, ?_⟩
        rw [f3]
        exact q _ H w (.refl _ _) g (.bl _)
    | dK h r => exact dict _ rfl eb
    | dT h r => exact dict _ rfl eb
    | @dN a ks h =>
      simp only [inB] at eb
      cases ek : nOf D1 with
      | none => rw [ek] at eb; cases eb
      | some k =>
        rw [ek] at eb
        have ei : decide (k ∈ ks) = b := by simpa using eb
        have ex := nOf_vw v1 ek
        rw [ex] at rx
        obtain rfl : u = .ref a := ry
        refine h5 I h rx fun s' I' => ⟨.bl _, H, I', rfl, ?_⟩
        rw [ei]
        exact q _ H w (.refl _ _) g (.bl _)
    | _ => cases eb
theorem op_ind (hu : X.A.units + 65 < cLine) : OpR X (compareOp .In) (r2 X.K .e inF) := by
  have := op_inG hu false .In op_in_seq (op_inD hu) (op_inT (by omega)) (fun I dg r h => d_in (by omega) I dg r h) (fun I e r h => n_in I e r h)
  simp only [Bool.false_eq_true, if_false] at this
  exact this
theorem op_notInd (hu : X.A.units + 65 < cLine) : OpR X (compareOp .NotIn) (r2 X.K .e notInF) := by
  have := op_inG hu true .NotIn op_notIn_seq (op_notInD hu) (op_notInT (by omega)) (fun I dg r h => d_notIn (by omega) I dg r h) (fun I e r h => n_notIn I e r h)
  simp only [if_true] at this
  exact this
end
end DL

/-! calls of what is built in -/
namespace L2
open PySem PySem.Spec PyProof.Rows
theorem call_lenDR {X : Cx} : CallR X (.builtin "len") (fun xs H Q => ∃ a kvs, xs = [V.ref a] ∧ Rd H a (.dK kvs) ∧ Q (.int kvs.length) H) := by
  intro pins s σ H xs us Q I r h
  obtain ⟨a, kvs, rfl, ha, q⟩ := h
  obtain ⟨u, rfl, ru⟩ := vals1 r
  cases ru
  exact d_len I ha fun t s' I' => ⟨.int kvs.length, H, I', ⟨t, rfl⟩, q⟩
end L2
namespace DL
open PySem PySem.Spec PyProof.Rows L2

def VwN (K : PySem.W.Frag) (w : Wit) (H : Hp) : List D → List V → Prop
  | [], [] => True
  | a :: r, x :: s => Vw K w H a x ∧ VwN K w H r s
  | _, _ => False
theorem KPs.vw {K : PySem.W.Frag} {w : Wit} {H : Hp} {S : Sto} (g : Gd K w H S) {ds : List D} {vs : List V} (h : KPs K w H ds vs) : VwN K w H (ds.map (deref S)) vs := by
  induction h with
  | nil => exact trivial
  | cons h t ih => exact ⟨h.vw g, ih⟩
theorem VwN.one {K : PySem.W.Frag} {w : Wit} {H : Hp} {a : D} : ∀ {xs : List V}, VwN K w H [a] xs → ∃ x, xs = [x] ∧ Vw K w H a x
  | [], h => h.elim
  | [x], h => ⟨x, rfl, h.1⟩
  | _ :: _ :: _, h => h.2.elim
theorem VwN.two {K : PySem.W.Frag} {w : Wit} {H : Hp} {a b : D} : ∀ {xs : List V}, VwN K w H [a, b] xs → ∃ x y, xs = [x, y] ∧ Vw K w H a x ∧ Vw K w H b y
  | [], h => h.elim
  | [x], h => h.2.elim
  | [x, y], h => ⟨x, y, rfl, h.1, h.2.1⟩
  | _ :: _ :: _ :: _, h => h.2.2.elim
def f2 (g : D → D → Option D) : List D → Option D
  | [d1, d2] => g d1 d2
  | _ => none
theorem f1_some {g : D → Option D} : ∀ {es : List D} {d : D}, f1 g es = some d → ∃ a, es = [a] ∧ g a = some d
  | [], _, h => by cases h
  | [a], _, h => ⟨a, rfl, h⟩
  | _ :: _ :: _, _, h => by cases h
section
variable {X : Cx}
/-- one argument -/
theorem call1 {f : Value} {k : Kd} {g : D → Option D} (h : ∀ (pins : List (Addr × Obj)) (s : Shared) (σ : L2.St) (H : Hp) (x : V) (u : Value) (Q : VK) (w : Wit) (S : Sto) (d d' : D), L2.Inv X pins σ H s → L2.RelV x u → Gd X.K w H S → Vw X.K w H d x → g d = some d' →
      (∀ v H' w', Ext w H w' H' → Gd X.K w' H' S → KP X.K k H w' H' d' v → Q v H') → wpAny (model X.prog X.w) X.A (call f [u]) (EP X pins σ Q) X.xe s) :
    CallR X f (rN X.K k (f1 g)) := by
  intro pins s σ H xs us Q I rx ⟨w, S, ds, d, gd, ks, e, q⟩
  have vw := ks.vw gd
  obtain ⟨a, ea, e⟩ := f1_some e
  rw [ea] at vw
  obtain ⟨x, rfl, vx⟩ := vw.one
  cases rx with
  | cons r t => cases t; exact h pins s σ H x _ Q w S a d I r gd vx e q
/-! ### len -/
theorem cr_len : CallR X (.builtin "len") (rN X.K .e (f1 lenF)) := by
  refine call1 fun pins s σ H x u Q w S d d' I r g v e q => ?_
  have rv : Vals [x] [u] := .cons r .nil
  cases v with
  | lst h rr => cases e; exact call_len_seq pins s σ H [_] [u] Q I rv ⟨_, _, rfl, .inl h, by rw [← rr.length]; exact q _ H w (.refl _ _) g (.int _)⟩
  | tup h rr => cases e; exact call_len_seq pins s σ H [_] [u] Q I rv ⟨_, _, rfl, .inr (SqT.of (g.sub _ _ h)), by rw [← rr.length]; exact q _ H w (.refl _ _) g (.int _)⟩
  | ctp h rr => cases e; exact call_len_seq pins s σ H [_] [u] Q I rv ⟨_, _, rfl, .inr (SqT.monoF none_le h), by rw [← rr.length]; exact q _ H w (.refl _ _) g (.int _)⟩
  | dK h rr => cases e; exact call_lenDR pins s σ H [_] [u] Q I rv ⟨_, _, rfl, h, by rw [← rr.length]; exact q _ H w (.refl _ _) g (.int _)⟩
  | dT h rr => cases e; exact call_len_dT pins s σ H [_] [u] Q I rv ⟨_, _, rfl, h, by rw [← rr.length]; exact q _ H w (.refl _ _) g (.int _)⟩
  | str z =>
    simp only [lenF] at e
    split at e
    · rename_i hl
      cases e
      exact call_len_str pins s σ H [_] [u] Q I rv ⟨z, rfl, Nat.le_of_lt (lim_size hl), q _ H w (.refl _ _) g (.int _)⟩
    · cases e
  | _ => cases e

/-! ### tuple(..), list(..) -/
theorem cr_tup : CallR X (.type "tuple") (rN X.K .e (f1 tupF)) := by
  refine call1 fun pins s σ H x u Q w S d d' I r g v e q => ?_
  have rv : Vals [x] [u] := .cons r .nil
  cases v with
  | @lst a vs ds h rr => cases e; exact call_tuple_of pins s σ H [_] [u] Q I rv ⟨_, _, rfl, .inl ⟨h, fun p np => q _ _ (w.new p (.tup vs)) (Ext.newF g np) (g.new np) (.tup upd_same (rr.mono (Le.new (g.noneF np))))⟩⟩
  | tup h rr => cases e; exact call_tuple_of pins s σ H [_] [u] Q I rv ⟨_, _, rfl, .inr ⟨SqT.of (g.sub _ _ h), q _ H w (.refl _ _) g (.tup h rr)⟩⟩
  | ctp h rr => cases e; exact call_tuple_of pins s σ H [_] [u] Q I rv ⟨_, _, rfl, .inr ⟨SqT.monoF none_le h, q _ H w (.refl _ _) g (.ctp h rr)⟩⟩
  | _ => cases e
theorem cr_lst (hc : X.calm = true) : CallR X (.type "list") (rN X.K .f (f1 lstF)) := by
  refine call1 fun pins s σ H x u Q w S d d' I r g v e q => ?_
  have rv : Vals [x] [u] := .cons r .nil
  cases v with
  | lst h rr => cases e; exact call_list_of pins s σ H [_] [u] Q I rv ⟨_, _, rfl, .inl h, fun p np => q _ _ w (Ext.newO w np) (g.newO np) ⟨p, rfl, np, g.noneF np, g.nophi np, _, upd_same, rr⟩⟩
  | tup h rr => cases e; exact call_list_of pins s σ H [_] [u] Q I rv ⟨_, _, rfl, .inr (SqT.of (g.sub _ _ h)), fun p np => q _ _ w (Ext.newO w np) (g.newO np) ⟨p, rfl, np, g.noneF np, g.nophi np, _, upd_same, rr⟩⟩
  | ctp h rr => cases e; exact call_list_of pins s σ H [_] [u] Q I rv ⟨_, _, rfl, .inr (SqT.monoF none_le h), fun p np => q _ _ w (Ext.newO w np) (g.newO np) ⟨p, rfl, np, g.noneF np, g.nophi np, _, upd_same, rr⟩⟩
  | dK h rr => cases e; exact call_listD hc pins s σ H [_] [u] Q I rv ⟨_, _, rfl, h, fun p np => q _ _ w (Ext.newO w np) (g.newO np) ⟨p, rfl, np, g.noneF np, g.nophi np, _, upd_same, rr.keys⟩⟩
  | _ => cases e

/-! ### int(..), sum, all, any, min, max -/
def intF : D → Option D
  | .int i => some (.int i)
  | .bl b => some (.int (if b then 1 else 0))
  | _ => none
theorem cr_int : CallR X (.type "int") (rN X.K .e (f1 intF)) := by
  refine call1 fun pins s σ H x u Q w S d d' I r g v e q => ?_
  have rv : Vals [x] [u] := .cons r .nil
  cases v with
  | int i => cases e; exact call_int1 pins s σ H [_] [u] Q I rv (.inl ⟨i, rfl, q _ H w (.refl _ _) g (.int _)⟩)
  | bl b => cases e; exact call_int1 pins s σ H [_] [u] Q I rv (.inr ⟨b, rfl, q _ H w (.refl _ _) g (.int _)⟩)
  | _ => cases e
theorem bls_of {K : PySem.W.Frag} {w : Wit} {ds : List D} {vs : List V} (h : Reps K w ds vs) : ∀ {ns : List Bool}, blsOf ds = some ns → vs = ns.map V.bl := by
  induction ds generalizing vs with
  | nil => intro ns e; cases h; cases e; rfl
  | cons d ds ih =>
    intro ns e
    cases h with
    | cons h t =>
      cases h <;> simp only [blsOf] at e <;> first | cases e | skip
      cases e2 : blsOf ds with
      | none => rw [e2] at e; cases e
      | some ms => rw [e2] at e; cases e; rw [ih t e2]; rfl
def anyF : D → Option D
  | .lst ds => (blsOf ds).map fun ns => .bl (ns.any id)
  | _ => none
theorem cr_allD (hc : X.calm = true) : CallR X (.builtin "all") (rN X.K .e (f1 allF)) := by
  refine call1 fun pins s σ H x u Q w S d d' I r g v e q => ?_
  have rv : Vals [x] [u] := .cons r .nil
  cases v with
  | @lst a vs ds h rr =>
    simp only [allF] at e
    cases e2 : blsOf ds with
    | none => rw [e2] at e; cases e
    | some ns => rw [e2] at e; cases e; exact cr_all hc pins s σ H [_] [u] Q I rv ⟨_, ns, rfl, by rw [← bls_of rr e2]; exact h, q _ H w (.refl _ _) g (.bl _)⟩
  | _ => cases e
theorem cr_anyD (hc : X.calm = true) : CallR X (.builtin "any") (rN X.K .e (f1 anyF)) := by
  refine call1 fun pins s σ H x u Q w S d d' I r g v e q => ?_
  have rv : Vals [x] [u] := .cons r .nil
  cases v with
  | @lst a vs ds h rr =>
    simp only [anyF] at e
    cases e2 : blsOf ds with
    | none => rw [e2] at e; cases e
    | some ns => rw [e2] at e; cases e; exact cr_any hc pins s σ H [_] [u] Q I rv ⟨_, ns, rfl, by rw [← bls_of rr e2]; exact h, q _ H w (.refl _ _) g (.bl _)⟩
  | _ => cases e
end
end DL

/-! sorted, isinstance, displays -/
namespace DL
open PySem PySem.Spec PyProof.Rows L2

/-! ### sorted -/
def RSort (K : PySem.W.Frag) (w : Wit) (v : Value) (b : D × V) : Prop := L2.RelV b.2 v ∧ Rep K w b.1 b.2
theorem each_in {K : PySem.W.Frag} {w : Wit} : ∀ {ds : List D} {vs : List V} {us : List Value}, Reps K w ds vs → Vals vs us → PySem.W.EachIs (RSort K w) us (ds.zip vs)
  | _, _, _, .nil, .nil => .nil
  | _, _, _, .cons h t, .cons r s => .cons ⟨r, h⟩ (each_in t s)
theorem each_out {K : PySem.W.Frag} {w : Wit} : ∀ {us : List Value} {bs : List (D × V)}, PySem.W.EachIs (RSort K w) us bs → Reps K w (bs.map (·.1)) (bs.map (·.2)) ∧ Vals (bs.map (·.2)) us
  | _, _, .nil => ⟨.nil, .nil⟩
  | _, _, .cons h t => ⟨.cons h.2 (each_out t).1, .cons h.1 (each_out t).2⟩
theorem each_reads {X : Cx} {pins : List (Addr × Obj)} {σ : L2.St} {H : Hp} {s : Shared} {w : Wit} (I : L2.Inv X pins σ H s) (hs : ∀ a o, w.F a = some o → H a = some o) : ∀ {us : List Value} {bs : List (D × V)}, PySem.W.EachIs (RSort X.K w) us bs → (∀ b ∈ bs, plD b.1 = true) →
    PySem.W.EachIs (fun v b => ∃ as, Reads s.heap v (toPy b.1) as) us bs
  | _, _, .nil, _ => .nil
  | _, _, .cons h t, p => .cons (Dp.reads I _ _ _ (h.2.dp hs (p _ List.mem_cons_self)) h.1) (each_reads I hs t fun b hb => p b (List.mem_cons_of_mem _ hb))
theorem zip_fst {α β : Type} : ∀ {as : List α} {bs : List β}, as.length = bs.length → (as.zip bs).map (·.1) = as
  | [], [], _ => rfl
  | a :: as, b :: bs, h => by simp [zip_fst (as := as) (bs := bs) (by simpa using h)]
section
variable {X : Cx}
end

/-! ### isinstance -/
theorem tyB_base {d : D} {t : String} (h : tyB d = some t) : t ∈ baseTys := by
  cases d <;> simp [tyB] at h <;> subst h <;> simp [baseTys]
theorem tyB_tyx {K : PySem.W.Frag} {w : Wit} {H : Hp} (hs : ∀ a o, w.F a = some o → H a = some o) {d : D} {v : V} {t : String} (h : Vw K w H d v) (e : tyB d = some t) : TyX K H v (.type t) := by
  cases h with
  | non => cases e; exact .base .non
  | bl b => cases e; exact .base (.bl b)
  | int b => cases e; exact .base (.int b)
  | str b => cases e; exact .base (.str b)
  | tup h r => cases e; exact .base (.tup (hs _ _ h))
  | ctp h r =>
    cases e
    rcases h with h | ⟨o, its, n, h1, h2, _⟩
    · rcases h with h | ⟨o, h⟩
      · cases (show (none : Option HO) = some _ from h)
      · cases (show (none : Option HO) = some _ from h)
    · exact .kTuple h1 h2
  | lst h r =>
    cases e
    rcases h with h | ⟨o, its, n, h1, h2, _⟩
    · rcases h with h | ⟨o, h⟩
      · exact .base (.lst h)
      · exact .base (.frz h)
    · exact .kList h1 h2
  | dK h r =>
    cases e
    rcases h with h | ⟨o, h⟩
    · exact .base (.dK h)
    · exact .fDict h
  | dT h r => cases e; exact .base (.dT h)
  | _ => cases e
/-- what isinstance needs to know of an own class -/
structure ClsI (K : PySem.W.Frag) (c : Str) : Prop where
  cls : Cls K (He.ga K c)
  fc : PySem.W.findIn K (.ref (He.ga K c)) (Str.ofString "__class__") = some (some (.builtin "object.__class__"))
  sg : PySem.W.specialIn K (.builtin "object.__class__") (Str.ofString "__get__") = some (some (.builtin "getset_descriptor.__get__"))
  tk : PySem.W.takesIn K (.builtin "object.__class__") = some true
  mro : PySem.W.mroIn K (He.ga K c) (.type "object") = some true
structure IsK (K : PySem.W.Frag) (us : List Value) (tb : String → Bool) (to : Str → Option Bool) : Prop where
  base : ∀ t ∈ baseTys, PySem.W.kitAny K (.type t) us = some (tb t)
  own : ∀ c b, to c = some b → ClsI K c ∧ PySem.W.kitAny K (.ref (He.ga K c)) us = some b
theorem is_of {K : PySem.W.Frag} {w : Wit} {H : Hp} {us : List Value} {tb : String → Bool} {to : Str → Option Bool} (hk : IsK K us tb to) (hs : ∀ a o, w.F a = some o → H a = some o) {d d' : D} {v : V} (h : Vw K w H d v) (e : isF tb to d = some d') :
    ∃ t b, TyX K H v t ∧ PySem.W.kitAny K t us = some b ∧ d' = .bl b := by
  by_cases hi : ∃ c fs, d = .ins c fs
  · obtain ⟨c, fs, rfl⟩ := hi
    cases h with
    | ins h r =>
      simp only [isF] at e
      cases e2 : to c with
      | none => rw [e2] at e; cases e
      | some b =>
        rw [e2] at e; cases e
        obtain ⟨k1, k2⟩ := hk.own c b e2
        exact ⟨_, b, .base (.ins h k1.cls k1.fc k1.sg k1.tk k1.mro), k2, rfl⟩
  · have e' : (tyB d).map (fun t => D.bl (tb t)) = some d' := by
      cases d <;> first | exact absurd ⟨_, _, rfl⟩ hi | exact e
    cases e2 : tyB d with
    | none => rw [e2] at e'; cases e'
    | some t =>
      rw [e2] at e'; cases e'
      exact ⟨_, _, tyB_tyx hs h e2, hk.base t (tyB_base e2), rfl⟩
theorem kitAny_one {K : PySem.W.Frag} {t u : Value} {b : Bool} (h : PySem.W.kitAny K t [u] = some b) : PySem.W.kitOne K t u = some b := by
  unfold PySem.W.kitAny at h
  cases e : PySem.W.kitOne K t u with
  | none => simp [e] at h
  | some c => cases c <;> simp [e, PySem.W.kitAny] at h <;> simp [h]
section
variable {X : Cx} {W : WZ} {O : List Nat} {a T : Expr} {fa : EF} {k : Kd} {p pos : Pos} {c : V} {u : Value} {tb : String → Bool} {to : Str → Option Bool}
theorem de_isi (hk : IsK X.K [u] tb to) (ha : DE k X W O a fa) (hT : PE X T (tC c)) (hc : ClsV c u) (hm : X.mg "isinstance" = none) (hg : Gl X "isinstance" := by rfl) (hs : starEach [a, T] X.env = (false, eval a X.env) :: starEach [T] X.env := by rfl) (hs2 : starEach [T] X.env = (false, eval T X.env) :: starEach [] X.env := by rfl) (hpl : (backTo pos (starEach [T] X.env)).any (·.1) = false := by rfl) :
    DE .e X W O (.Call (.Name "isinstance" p) [a, T] [] pos) (e1 (isF tb to) fa) := by
  refine ⟨(pe_callB call_isi hg hm (by rfl) (pa_cons ha.pe (pa_cons hT pa_nil hs2) hs) (by decide) (by decide) hs hpl).imp ?_⟩
  rintro σ H Q ⟨ent, w, ρ, S, r, p⟩
  refine ⟨ent, w, ρ, S, r, p.bind fun d S1 v H1 w1 x g1 z p1 => ?_⟩
  have v1 := (z.ext (H1 := H1) (.refl _ _)).vw g1
  cases e : isF tb to (deref S1 d) with
  | none => rw [e] at p1; exact p1.elim
  | some d' =>
    rw [e] at p1
    obtain ⟨t, b, ty, kk, rfl⟩ := is_of hk g1.sub v1 e
    exact ⟨v, c, t, u, b, rfl, hc, ty, kitAny_one kk, p1 _ H1 w1 (.refl _ _) g1 (.bl b)⟩
theorem Paired.len {α β : Type} {F : α → β → Prop} : ∀ {l : List α} {m : List β}, Paired F l m → l.length = m.length
  | _, _, .nil => rfl
  | _, _, .cons _ t => by simp [Paired.len t]
end

/-! ### displays -/
section
variable {X : Cx} {W : WZ} {O : List Nat} {es : List Expr} {e : Expr} {fa : AF} {f : EF} {k : Kd} {pos p : Pos} {j : Nat}
theorem tup_of {K : PySem.W.Frag} : ∀ σ H Q, rd K .e W O (eTup fa) σ H Q → tTup (rdA K (PRep K) W O fa) σ H Q := by
  rintro σ H Q ⟨ent, w, ρ, S, r, p⟩
  refine ⟨ent, w, ρ, S, r, ?_⟩
  unfold eTup at p
  cases e : fa ρ S with
  | stuck => rw [e] at p; exact p
  | exn x S1 => rw [e] at p; exact p
  | ok ds S1 =>
    rw [e] at p
    intro vs H1 w1 x1 g1 z
    dsimp only at p
    have z : Reps K w1 ds vs := z
    split at p
    · rename_i hl
      refine ⟨by rw [← z.length]; exact Nat.le_of_lt (lim_size hl), fun a na => ?_⟩
      exact p _ _ (w1.new a (.tup vs)) (x1.trans (Ext.newF g1 na)) (g1.new na) (.tup upd_same (z.mono (Le.new (g1.noneF na))))
    · exact p.elim
theorem lst_of {K : PySem.W.Frag} : ∀ σ H Q, rd K .f W O (eLst fa) σ H Q → tLst (rdA K (PRep K) W O fa) σ H Q := by
  rintro σ H Q ⟨ent, w, ρ, S, r, p⟩
  refine ⟨ent, w, ρ, S, r, ?_⟩
  unfold eLst at p
  cases e : fa ρ S with
  | stuck => rw [e] at p; exact p
  | exn x S1 => rw [e] at p; exact p
  | ok ds S1 =>
    rw [e] at p
    intro vs H1 w1 x1 g1 z
    dsimp only at p
    have z : Reps K w1 ds vs := z
    split at p
    · rename_i hl
      refine ⟨by rw [← z.length]; exact Nat.le_of_lt (lim_size hl), fun a na => ?_⟩
      have x2 := x1.trans (Ext.newO (o := .lst vs) w1 na)
      refine p _ _ w1 x2 (g1.newO na) ⟨a, rfl, ?_, g1.noneF na, g1.nophi na, _, upd_same, z⟩
      exact x1.there a (.inl na)
    · exact p.elim
theorem de_tup (ha : DA X W O es fa) : DE .e X W O (.Tuple es j pos) (eTup fa) := ⟨(pe_tup ha.pa).imp tup_of⟩
theorem de_lst (ha : DA X W O es fa) : DE .f X W O (.List es pos) (eLst fa) := ⟨(pe_lst ha.pa).imp lst_of⟩
theorem da_star (ha : DE k X W O e f) (hr : DA X W O es fa) (hs : starEach (.Starred e p :: es) X.env = (true, eval e X.env) :: starEach es X.env := by rfl) : DA X W O (.Starred e p :: es) (aStar f fa) := by
  refine ⟨(StX.pa_star ha.pe hr.pa hs).imp ?_⟩
  rintro σ H Q ⟨ent, w, ρ, S, r, p⟩
  refine ⟨ent, w, ρ, S, r, ?_⟩
  unfold aStar at p
  cases e1 : f ρ S with
  | stuck => rw [e1] at p; exact p
  | exn x S1 => rw [e1] at p; exact p
  | ok d S1 =>
    rw [e1] at p
    refine fun v H1 w1 x1 g1 z1 => ?_
    have v1 := (z1.ext (H1 := H1) (.refl _ _)).vw g1
    dsimp only at p
    have fin : ∀ (xs : List D) (vs : List V), Reps X.K w1 xs vs → PostA X.K (PRep X.K) w H W σ (match fa ρ S1 with
      | .ok ds S2 => .ok (xs ++ ds) S2
      | .exn x S2 => .exn x S2
      | .stuck => .stuck) Q → rdA X.K (PRep X.K) W O fa σ H1 fun ys H2 => Q (vs ++ ys) H2 := by
      intro xs vs rx p
      refine ⟨ent, w1, ρ, S1, r.later x1 g1, ?_⟩
      cases e2 : fa ρ S1 with
      | stuck => rw [e2] at p; exact p
      | exn x S2 => rw [e2] at p; exact fun cls dx H' w' y g' h => p cls dx H' w' (x1.trans y) g' h
      | ok ds S2 =>
        rw [e2] at p
        exact fun ys H2 w2 x2 g2 z2 => p _ H2 w2 (x1.trans x2) g2 ((rx.mono x2.le).append z2)
    generalize deref S1 d = D1 at v1 p
    cases v1 with
    | lst h rr => exact ⟨_, _, rfl, .inr h, fin _ _ rr p⟩
    | tup h rr => exact ⟨_, _, rfl, .inl (SqT.of (g1.sub _ _ h)), fin _ _ rr p⟩
    | ctp h rr => exact ⟨_, _, rfl, .inl (SqT.monoF none_le h), fin _ _ rr p⟩
    | _ => exact p.elim
end
end DL

/-! enumerate, zip, texts walked -/
namespace DL
open PySem PySem.Spec PyProof.Rows L2

/-! ### enumerate of a tuple -/
def IteT (K : PySem.W.Frag) (a : Addr) : It where
  go := fun i H => ∃ xs x, SqT K H a xs ∧ xs[i]? = some x
  yld := fun i H v H' => ∃ T x, v = .ref T ∧ H T = none ∧ H' = upd H T (.tup [.int (i : Int), x]) ∧ ∀ xs, SqT K H a xs → xs[i]? = some x
  stop := fun i H => ∃ xs, SqT K H a xs ∧ xs.length = i
theorem vals_get {vs : List V} {us : List Value} (h : Vals vs us) : ∀ {i : Nat} {v : V}, vs[i]? = some v → ∃ u, us[i]? = some u ∧ L2.RelV v u := by
  induction h with
  | nil => intro i v e; simp at e
  | cons h t ih =>
    intro i v e
    cases i with
    | zero => simp at e; subst e; exact ⟨_, rfl, h⟩
    | succ i => exact ih (by simpa using e)
theorem turn_enumT {P : Program} {w : World} {K : PySem.W.Frag} {elts : List Expr} {kk : Nat} {tpos : Pos} (a e it : Addr) :
    Turn P w K (.Tuple elts kk tpos) (IteT K a) [e, it] e (fun i h => (∃ old, IsEnum h e it (i : Int) old) ∧ h.IsTupleIter it a i ∧ e ≠ it) where
  mem := by simp
  obj := fun i h ⟨⟨old, he⟩, ⟨o, ho, hc, hd⟩, _⟩ b hb => by
    simp at hb
    rcases hb with rfl | rfl
    · exact ⟨_, he, fun v => by simp⟩
    · exact ⟨o, ho, fun v => by rw [hd]; simp⟩
  keep := fun i h h' ⟨⟨old, he⟩, ⟨o, ho, hc, hd⟩, hne⟩ hk => ⟨⟨old, hk e (by simp) _ he⟩, ⟨o, hk it (by simp) _ ho, hc, hd⟩, hne⟩
  item := by
    rintro X rfl rfl rfl hc i pins s σ H E I hf ⟨⟨old, he⟩, hi, hne⟩ ⟨xs, x, hq, hx⟩
    obtain ⟨its, rv, ht, hz⟩ := I.tuple hq
    obtain ⟨o, ho, oc, n, od⟩ := ht
    have hh : X.A.handled = none := I.ok.hd hc
    have nai : a ≠ it := by
      rintro rfl
      obtain ⟨o2, ho2, hc2, _⟩ := hi
      rw [ho] at ho2; cases ho2
      rw [oc] at hc2; exact absurd hc2 (by simp)
    have nae : a ≠ e := by
      rintro rfl
      have he' : s.heap.get? a = _ := he
      rw [ho] at he'; cases he'
      exact absurd oc (by simp)
    have dr := Draws.tuple (prog := X.prog) (w := X.w) (A := X.A.in1) hh it a nai its.toArray
    have wt := WalksT.enumerateD dr e hne (by simp [hne, Ne.symm nae]) (by simp)
    obtain ⟨u, hu, ru⟩ := vals_get rv hx
    have hlen : i < its.toArray.size := by
      have := (List.getElem?_eq_some_iff.mp hu).1
      simpa using this
    refine wt.item i s _ E hlen ⟨⟨old, he⟩, hi, ⟨o, ho, oc, n, od⟩⟩ fun T vals h' tk pt ts tt mid fr => ⟨.ref T, rfl, ?_⟩
    obtain ⟨t, y, hy, rfl⟩ := pt
    refine wt.go elts kk tpos i T _ _ E mid fun h2 st fr2 => ?_
    have eyu : y = u := by
      have : its[i]? = some y := by simpa using hy
      rw [hu] at this; cases this; rfl
    subst eyu
    have hT : H T = none := I.hok.fresh ts
    have nT := wt.apart i T h' mid
    obtain ⟨ot, hot, otc, otn, otd⟩ := tt
    have ht2 := fr2 T ot nT hot
    have I2 := I.turnedNew (h' := h2) (t' := tk) (ch := [e, it]) (T := T) (ob := .tup [.int (i : Int), x]) (fun b o hb ho => fr2 b o hb (fr b o hb ho)) (fun b hb => hf b hb) ts (by
      unfold ObjOk
      exact ⟨Nat.le_trans (by simp : [V.int (i : Int), x].length ≤ 2) (by decide), [.int (i : Int) t, y], .cons ⟨t, rfl⟩ (.cons ru .nil), ot, ht2, otc, otn, otd⟩)
    refine ⟨.ref T, _, I2, rfl, ⟨T, x, rfl, hT, rfl, fun ys hys => ?_⟩, ⟨st.1.imp fun _ z => by exact_mod_cast z, st.2.1, hne⟩, fun b hb => ?_⟩
    · rw [I.tuple_inj hys hq]; exact hx
    · have hn : b ≠ T := fun z => nT (z ▸ hb)
      rw [upd_ne hn]
      exact (hf b hb).1
  done := by
    rintro X rfl rfl rfl hc i pins s σ H E I hf ⟨⟨old, he⟩, hi, hne⟩ ⟨xs, hq, hx⟩
    obtain ⟨its, rv, ht, hz⟩ := I.tuple hq
    obtain ⟨o, ho, oc, n, od⟩ := ht
    have hh : X.A.handled = none := I.ok.hd hc
    have nai : a ≠ it := by
      rintro rfl
      obtain ⟨o2, ho2, hc2, _⟩ := hi
      rw [ho] at ho2; cases ho2
      rw [oc] at hc2; exact absurd hc2 (by simp)
    have nae : a ≠ e := by
      rintro rfl
      have he' : s.heap.get? a = _ := he
      rw [ho] at he'; cases he'
      exact absurd oc (by simp)
    have dr := Draws.tuple (prog := X.prog) (w := X.w) (A := X.A.in1) hh it a nai its.toArray
    have wt := WalksT.enumerateD dr e hne (by simp [hne, Ne.symm nae]) (by simp)
    have hl : its.toArray.size = i := by
      have := rv.length
      simp; omega
    refine wt.done s _ E (by rw [hl]; exact ⟨⟨old, he⟩, hi, ⟨o, ho, oc, n, od⟩⟩) fun h' tk fr => ⟨rfl, ?_⟩
    exact I.turnedL (ch := [e, it]) (fun b o hb ho => fr b o hb ho) fun b hb => hf b hb
  self := fun A i s Q E ⟨⟨_, he⟩, _⟩ q => wpAny_pyIter_enum he q
end DL
namespace PySem
open Sem (wp)
open AutoSeq1 (wpAny_loadPart')
theorem meets_enumerate_newT (l : Addr) (items : Array Value) (n : Nat) (dct : Option Addr) (sl : Array (Option Value)) :
    Meets (Builtin.«enumerate.__new__» ⟨[.type "enumerate", .ref l], []⟩) (fun _ R s => s.heap.get? l = some { cls := .type "tuple", dict := dct, data := .seq items n, slots := sl } ∧
      R (.ok (.ret (.ref (s.heap.push { cls := .type "tuple_iterator", data := .fields #[.ref l, .int 0 0] }).objs.size)))
        { s with heap := (s.heap.push { cls := .type "tuple_iterator", data := .fields #[.ref l, .int 0 0] }).push { cls := .type "enumerate", data := .fields #[.none, .bool false, .ref s.heap.objs.size, rawInt 0, .none, .none] } }) :=
  .of_wp fun prog w A R s h => by
    obtain ⟨hp, g, d, tk, os⟩ := s; obtain ⟨hl, h⟩ := h
    have hsub := sub_enumerate
    have hL : Heap.IsTuple (Shared.heap ⟨hp, g, d, tk, os⟩) l items := ⟨_, hl, rfl, n, rfl⟩
    wp_walk using wpAny_loadPart' hl
    refine wpAny_stack_any fun st => wpAny_pure ?_
    split
    · rename_i c _ _ _ _ _
      cases (c == Value.type "enumerate")
      · wp_walk using wpAny_loadPart' hl, wpAny_pyIter_tuple hL
        exact ⟨_, rfl, h⟩
      · wp_walk using wpAny_loadPart' hl, wpAny_pyIter_tuple hL
        exact ⟨_, rfl, h⟩
    · wp_walk using wpAny_loadPart' hl, wpAny_pyIter_tuple hL
      exact ⟨_, rfl, h⟩
section
variable {prog : Program} {w : World} {A : Around} {E : Value → Shared → Prop} {s : Shared}
theorem call_enumerate_tupleD {l : Addr} {items : Array Value} {Q : Value → Shared → Prop} (hL : s.heap.IsTuple l items)
    (h : ∀ h', IsEnum h' (s.heap.objs.size + 1) s.heap.objs.size 0 .none → h'.IsTupleIter s.heap.objs.size l 0 → h'.objs.size = s.heap.objs.size + 2 →
      (∀ b o, s.heap.get? b = some o → h'.get? b = some o) → Q (.ref (s.heap.objs.size + 1)) { s with heap := h' }) :
    wpAny (model prog w) A (call (.type "enumerate") [.ref l]) Q E s := by
  obtain ⟨⟨c, dct, dt, sl⟩, hl, hc, n, hd⟩ := hL
  replace hc : c = .type "tuple" := hc
  replace hd : dt = .seq items n := hd
  subst hc hd
  refine callType_new F.called_enumerate (by decide) (F.typeCall_enumerate_1 _) (F.newCall_enumerate_1 _) (fun obj => F.args_object_init_2 obj _) F.entry_enumerate_new
    (meets_enumerate_newT l items n dct sl) ⟨hl, ?_⟩
  have hz : (s.heap.push { cls := .type "tuple_iterator", data := .fields #[.ref l, .int 0 0] }).objs.size = s.heap.objs.size + 1 := Heap.size_push ..
  show _ ∧ _
  rw [hz]
  have he : IsEnum ((s.heap.push { cls := .type "tuple_iterator", data := .fields #[.ref l, .int 0 0] }).push
      { cls := .type "enumerate", data := .fields #[.none, .bool false, .ref s.heap.objs.size, rawInt 0, .none, .none] }) (s.heap.objs.size + 1) s.heap.objs.size 0 .none := by
    have := Heap.get?_push_size (s.heap.push { cls := .type "tuple_iterator", data := .fields #[.ref l, .int 0 0] })
      (o := { cls := .type "enumerate", data := .fields #[.none, .bool false, .ref s.heap.objs.size, rawInt 0, .none, .none] }) rfl
    rw [hz] at this; exact this
  refine ⟨⟨_, he, rfl⟩, h _ he ⟨_, Heap.get?_push_of_some _ (Heap.get?_push_size _ rfl), rfl, rfl⟩ (by rw [Heap.size_push, hz]) fun b o x => Heap.get?_push_of_some _ (Heap.get?_push_of_some _ x)⟩
end
end PySem
namespace DL
open PySem PySem.Spec PyProof.Rows L2
theorem pi_enumT {X : Cx} {e : Expr} {ta : TA} {p pos tpos : Pos} {elts : List Expr} {kk : Nat} (hg : Gl X "enumerate") (hm : X.mg "enumerate" = none) (ha : PA X [e] ta) (hs : starEach [e] X.env = [(false, eval e X.env)] := by rfl) :
    PI X (.Tuple elts kk tpos) (.Call (.Name "enumerate" p) [e] [] pos) (fun σ H R => ta σ H fun vs H1 => ∃ a xs, vs = [.ref a] ∧ SqT X.K H1 a xs ∧ R (IteT X.K a) H1) := by
  refine ⟨fun pins s σ H R I h => ?_⟩
  refine Call_ (ld_blt I hg hm boot_enumerate (PyProof.Rows.callWith_type1 (thn (ha.run pos pins s σ H _ I h) fun us s1 ⟨vs, H1, I1, r1, q1⟩ => ?_) hs rfl))
  obtain ⟨a, xs, ex, hq, q⟩ := q1
  subst ex
  cases r1 with
  | cons r rr =>
    cases rr
    cases r
    obtain ⟨its, rv, p', hz⟩ := I1.tuple hq
    refine call_enumerate_tupleD p' fun h' he hit hsz hk => wpAny_pyIter_enum he ?_
    have I2 : L2.Inv X pins σ H1 { s1 with heap := h' } := I1.kept (t' := s1.toks) hk
    refine ⟨s1.heap.objs.size + 1, [s1.heap.objs.size + 1, s1.heap.objs.size], _, _, H1, rfl, I2, turn_enumT a (s1.heap.objs.size + 1) s1.heap.objs.size, ⟨⟨.none, he⟩, hit, Nat.succ_ne_self _⟩, fun b hb => ?_, q⟩
    have e' : b = s1.heap.objs.size + 1 ∨ b = s1.heap.objs.size := by simpa using hb
    have hle : s1.heap.objs.size ≤ b := by
      rcases e' with z | z
      · rw [z]; exact Nat.le_add_right _ _
      · rw [z]; exact Nat.le_refl _
    exact I1.fpOk hle (I1.hok.fresh hle)
end DL
namespace DL
open PySem PySem.Spec PyProof.Rows L2
theorem enD_get : ∀ (k : Nat) (ds : List D) (i : Nat), (enD k ds)[i]? = ds[i]?.map fun d => .tup [.int ((k + i : Nat) : Int), d]
  | k, [], i => by simp [enD]
  | k, d :: ds, 0 => by simp [enD]
  | k, d :: ds, i + 1 => by
    simp only [enD, List.getElem?_cons_succ, enD_get (k + 1) ds i]
    have : k + 1 + i = k + (i + 1) := by omega
    rw [this]
theorem enD_len : ∀ (k : Nat) (ds : List D), (enD k ds).length = ds.length
  | _, [] => rfl
  | k, d :: ds => by simp [enD, enD_len (k + 1) ds]
section
variable {K : PySem.W.Frag} {w : Wit} {a b : Addr} {vs us : List V} {ds es : List D}
theorem itok_en (h : SqL K w.F a vs) (r : Reps K w ds vs) : ItOk K w (Ite K a) (enD 0 ds) := fun w' H' S' i l g => by
  have hq : SqL K H' a vs := SqL.monoF g.sub (SqL.monoF l.F h)
  refine ⟨fun d e => ?_, fun hl => ⟨vs, hq, by rw [← r.length]; rw [enD_len] at hl; exact Nat.le_of_eq hl.symm⟩⟩
  rw [enD_get] at e
  cases e1 : ds[i]? with
  | none => rw [e1] at e; cases e
  | some d' =>
    rw [e1] at e; cases e
    obtain ⟨v, ev, rv⟩ := r.get e1
    refine ⟨⟨vs, v, hq, ev⟩, fun x H2 y => ?_⟩
    obtain ⟨T, x', rfl, nT, rfl, y⟩ := y
    have := y vs hq
    rw [ev] at this; cases this
    refine ⟨w'.new T (.tup [.int (i : Int), v]), Ext.newF g nT, g.new nT, .tup upd_same (.cons ?_ (.cons ((rv.mono l).mono (Le.new (g.noneF nT))) .nil))⟩
    simp only [Nat.zero_add]
    exact .int _
theorem itok_enT (h : SqT K w.F a vs) (r : Reps K w ds vs) : ItOk K w (IteT K a) (enD 0 ds) := fun w' H' S' i l g => by
  have hq : SqT K H' a vs := SqT.monoF g.sub (SqT.monoF l.F h)
  refine ⟨fun d e => ?_, fun hl => ⟨vs, hq, by rw [← r.length]; rw [enD_len] at hl; exact hl.symm⟩⟩
  rw [enD_get] at e
  cases e1 : ds[i]? with
  | none => rw [e1] at e; cases e
  | some d' =>
    rw [e1] at e; cases e
    obtain ⟨v, ev, rv⟩ := r.get e1
    refine ⟨⟨vs, v, hq, ev⟩, fun x H2 y => ?_⟩
    obtain ⟨T, x', rfl, nT, rfl, y⟩ := y
    have := y vs hq
    rw [ev] at this; cases this
    refine ⟨w'.new T (.tup [.int (i : Int), v]), Ext.newF g nT, g.new nT, .tup upd_same (.cons ?_ (.cons ((rv.mono l).mono (Le.new (g.noneF nT))) .nil))⟩
    simp only [Nat.zero_add]
    exact .int _
theorem zipD_get : ∀ (xs ys : List D) (i : Nat) (d : D), (zipD xs ys)[i]? = some d → ∃ x y, xs[i]? = some x ∧ ys[i]? = some y ∧ d = .tup [x, y]
  | x :: xs, y :: ys, 0, d, h => by simp [zipD] at h; exact ⟨x, y, rfl, rfl, h.symm⟩
  | x :: xs, y :: ys, i + 1, d, h => by
    obtain ⟨x', y', h1, h2, h3⟩ := zipD_get xs ys i d (by simpa [zipD] using h)
    exact ⟨x', y', by simpa using h1, by simpa using h2, h3⟩
  | [], _, i, d, h => by simp [zipD] at h
  | _ :: _, [], i, d, h => by simp [zipD] at h
theorem zipD_len : ∀ (xs ys : List D), (zipD xs ys).length = min xs.length ys.length
  | x :: xs, y :: ys => by simp [zipD, zipD_len xs ys]
  | [], _ => by simp [zipD]
  | _ :: _, [] => by simp [zipD]
theorem itok_zip (h : SqL K w.F a vs) (r : Reps K w ds vs) (h' : SqL K w.F b us) (r' : Reps K w es us) : ItOk K w (Itz K a b) (zipD ds es) := fun w' H' S' i l g => by
  have hq : SqL K H' a vs := SqL.monoF g.sub (SqL.monoF l.F h)
  have hq' : SqL K H' b us := SqL.monoF g.sub (SqL.monoF l.F h')
  refine ⟨fun d e => ?_, fun hl => ⟨vs, us, hq, hq', by rw [zipD_len, r.length, r'.length] at hl; omega⟩⟩
  obtain ⟨x, y, e1, e2, rfl⟩ := zipD_get _ _ _ _ e
  obtain ⟨v, ev, rv⟩ := r.get e1
  obtain ⟨u, eu, ru⟩ := r'.get e2
  refine ⟨⟨vs, us, v, u, hq, hq', ev, eu⟩, fun x H2 y => ?_⟩
  obtain ⟨T, x', y', rfl, nT, rfl, y1, y2⟩ := y
  have h1 := y1 vs hq
  have h2 := y2 us hq'
  rw [ev] at h1; cases h1
  rw [eu] at h2; cases h2
  exact ⟨w'.new T (.tup [v, u]), Ext.newF g nT, g.new nT, .tup upd_same (.cons ((rv.mono l).mono (Le.new (g.noneF nT))) (.cons ((ru.mono l).mono (Le.new (g.noneF nT))) .nil))⟩
theorem itok_zipT (h : SqT K w.F a vs) (r : Reps K w ds vs) (h' : SqT K w.F b us) (r' : Reps K w es us) : ItOk K w (RZ.ItzT K a b) (zipD ds es) := fun w' H' S' i l g => by
  have hq : SqT K H' a vs := SqT.monoF g.sub (SqT.monoF l.F h)
  have hq' : SqT K H' b us := SqT.monoF g.sub (SqT.monoF l.F h')
  refine ⟨fun d e => ?_, fun hl => ⟨vs, us, hq, hq', by rw [zipD_len, r.length, r'.length] at hl; omega⟩⟩
  obtain ⟨x, y, e1, e2, rfl⟩ := zipD_get _ _ _ _ e
  obtain ⟨v, ev, rv⟩ := r.get e1
  obtain ⟨u, eu, ru⟩ := r'.get e2
  refine ⟨⟨vs, us, v, u, hq, hq', ev, eu⟩, fun x H2 y => ?_⟩
  obtain ⟨T, x', y', rfl, nT, rfl, y1, y2⟩ := y
  have h1 := y1 vs hq
  have h2 := y2 us hq'
  rw [ev] at h1; cases h1
  rw [eu] at h2; cases h2
  exact ⟨w'.new T (.tup [v, u]), Ext.newF g nT, g.new nT, .tup upd_same (.cons ((rv.mono l).mono (Le.new (g.noneF nT))) (.cons ((ru.mono l).mono (Le.new (g.noneF nT))) .nil))⟩
theorem itok_str (x : Str) : ItOk K w (Its x) (chD x) := fun w' H' S' i l g => by
  refine ⟨fun d e => ?_, fun hl => (by simpa [chD] using Nat.le_of_eq hl.symm : x.cps.size ≤ i)⟩
  have hi : i < x.cps.size := by have := (List.getElem?_eq_some_iff.mp e).1; simpa [chD] using this
  refine ⟨hi, fun v H2 y => ?_⟩
  obtain ⟨rfl, c, hc, rfl⟩ := y
  refine ⟨w', .refl _ _, g, ?_⟩
  unfold chD at e
  rw [List.getElem?_map, Array.getElem?_toList, hc] at e
  cases e
  exact .str _
end
theorem itemsD_some {d : D} {ds : List D} (h : itemsD d = some ds) : d = .lst ds ∨ d = .tup ds ∨ d = .ctp ds := by
  cases d <;> simp [itemsD] at h <;> subst h <;> simp
section
variable {X : Cx} {W : WZ} {O : List Nat} {tg e e' : Expr} {es : List Expr} {f : EF} {fa : AF} {k : Kd} {elts : List Expr} {kk : Nat} {p pos tpos : Pos}
theorem di_str (he : DE k X W O e f) : DI X W O tg e (iStr f) := by
  refine ⟨(pi_str he.pe).imp ?_⟩
  rintro σ H Q ⟨ent, w, ρ, S, r, p⟩
  refine ⟨ent, w, ρ, S, r, ?_⟩
  unfold iStr at p
  cases e1 : f ρ S with
  | stuck => rw [e1] at p; exact p
  | exn x S1 => rw [e1] at p; exact p
  | ok d S1 =>
    rw [e1] at p
    intro v H1 w1 x1 g1 z
    cases d with
    | str x =>
      have vw := (z.ext (H1 := H1) (.refl _ _)).vw g1
      cases vw
      dsimp only at p
      split at p
      · rename_i hl
        exact ⟨x, rfl, p _ H1 w1 x1 g1 (itok_str x) (by unfold chD; rw [List.length_map, Array.length_toList]; exact Nat.le_of_lt (lim_size hl))⟩
      · exact p.elim
    | _ => exact p.elim
theorem di_en (ha : DA X W O [e] fa) (hm : X.mg "enumerate" = none) (hg : Gl X "enumerate" := by rfl) (hs : starEach [e] X.env = [(false, eval e X.env)] := by rfl) : DI X W O (.Tuple elts kk tpos) (.Call (.Name "enumerate" p) [e] [] pos) (iEn fa) := by
  refine ⟨((pi_enum hg hm ha.pa hs).or (pi_enumT hg hm ha.pa hs)).imp ?_⟩
  rintro σ H Q ⟨ent, w, ρ, S, r, p⟩
  unfold iEn at p
  cases e1 : fa ρ S with
  | stuck => rw [e1] at p; exact p.elim
  | exn x S1 => rw [e1] at p; exact .inl ⟨ent, w, ρ, S, r, by rw [e1]; exact p⟩
  | ok ds S1 =>
    rw [e1] at p
    match ds, p with
    | [d], p =>
      dsimp only at p
      cases e2 : itemsD d with
      | none => rw [e2] at p; exact p.elim
      | some xs =>
        rw [e2] at p
        dsimp only at p
        split at p
        · rename_i hl
          have hz : (enD 0 xs).length ≤ sizeLine := by rw [enD_len]; exact Nat.le_of_lt (lim_size hl)
          rcases itemsD_some e2 with rfl | rfl | rfl
          · refine .inl ⟨ent, w, ρ, S, r, ?_⟩
            rw [e1]
            intro vs H1 w1 x1 g1 z
            cases z with
            | cons h t =>
              cases t
              cases h with
              | lst h rr => exact ⟨_, _, rfl, SqL.monoF g1.sub h, p _ H1 w1 x1 g1 (itok_en h rr) hz⟩
          · refine .inr ⟨ent, w, ρ, S, r, ?_⟩
            rw [e1]
            intro vs H1 w1 x1 g1 z
            cases z with
            | cons h t =>
              cases t
              cases h with
              | tup h rr => exact ⟨_, _, rfl, SqT.of (g1.sub _ _ h), p _ H1 w1 x1 g1 (itok_enT (SqT.of h) rr) hz⟩
          · refine .inr ⟨ent, w, ρ, S, r, ?_⟩
            rw [e1]
            intro vs H1 w1 x1 g1 z
            cases z with
            | cons h t =>
              cases t
              cases h with
              | ctp h rr => exact ⟨_, _, rfl, SqT.monoF none_le h, p _ H1 w1 x1 g1 (itok_enT (SqT.monoF none_le h) rr) hz⟩
        · exact p.elim
    | [], p => exact p.elim
    | _ :: _ :: _, p => exact p.elim
theorem di_zip (ha : DA X W O [e, e'] fa) (hm : X.mg "zip" = none) (hg : Gl X "zip" := by rfl) (hs : starEach [e, e'] X.env = (false, eval e X.env) :: starEach [e'] X.env := by rfl) (hpl : (backTo pos (starEach [e'] X.env)).any (·.1) = false := by rfl) : DI X W O (.Tuple elts kk tpos) (.Call (.Name "zip" p) [e, e'] [] pos) (iZip fa) := by
  refine ⟨((pi_zip hg hm ha.pa hs hpl).or (RZ.pi_zipA hg hm ha.pa hs hpl)).imp ?_⟩
  rintro σ H Q ⟨ent, w, ρ, S, r, p⟩
  unfold iZip at p
  cases e1 : fa ρ S with
  | stuck => rw [e1] at p; exact p.elim
  | exn x S1 => rw [e1] at p; exact .inl ⟨ent, w, ρ, S, r, by rw [e1]; exact p⟩
  | ok ds S1 =>
    rw [e1] at p
    match ds, p with
    | [.lst a, .lst b], p =>
      dsimp only at p
      split at p
      · rename_i hl
        have hz : (zipD a b).length ≤ sizeLine := by rw [zipD_len]; exact Nat.le_trans (Nat.min_le_left _ _) (Nat.le_of_lt (lim_size hl))
        refine .inl ⟨ent, w, ρ, S, r, ?_⟩
        rw [e1]
        intro vs H1 w1 x1 g1 z
        cases z with
        | cons h t => cases t with
          | cons h' t => cases t; cases h with
            | lst h rr => cases h' with
              | lst h' rr' => exact ⟨_, _, _, _, rfl, SqL.monoF g1.sub h, SqL.monoF g1.sub h', p _ H1 w1 x1 g1 (itok_zip h rr h' rr') hz⟩
      · exact p.elim
    | [.tup a, .tup b], p =>
      dsimp only at p
      split at p
      · rename_i hl
        have hz : (zipD a b).length ≤ sizeLine := by rw [zipD_len]; exact Nat.le_trans (Nat.min_le_left _ _) (Nat.le_of_lt (lim_size hl))
        refine .inr ⟨ent, w, ρ, S, r, ?_⟩
        rw [e1]
        intro vs H1 w1 x1 g1 z
        cases z with
        | cons h t => cases t with
          | cons h' t => cases t; cases h with
            | tup h rr => cases h' with
              | tup h' rr' => exact ⟨_, _, _, _, rfl, .inr ⟨SqT.of (g1.sub _ _ h), SqT.of (g1.sub _ _ h'), p _ H1 w1 x1 g1 (itok_zipT (SqT.of h) rr (SqT.of h') rr') hz⟩⟩
      · exact p.elim
end
end DL

/-! several names at once; what is changed in place -/
namespace DL
open PySem PySem.Spec PyProof.Rows L2

/-! ### expressions of several kinds -/
inductive KPL (K : PySem.W.Frag) : List Kd → Hp → Wit → Hp → List D → List V → List Addr → Prop
  | nil {H0 : Hp} {w : Wit} {H : Hp} : KPL K [] H0 w H [] [] []
  | e {ks : List Kd} {H0 : Hp} {w : Wit} {H : Hp} {ds : List D} {vs : List V} {L : List Addr} {d : D} {v : V} (h : Rep K w d v) (t : KPL K ks H0 w H ds vs L) : KPL K (.e :: ks) H0 w H (d :: ds) (v :: vs) L
  | f {ks : List Kd} {H0 : Hp} {w : Wit} {H : Hp} {ds : List D} {vs : List V} {L : List Addr} {d : D} {a : Addr} (n : Nb (H0 a)) (h : Own K w H d a) (na : a ∉ L) (t : KPL K ks H0 w H ds vs L) : KPL K (.f :: ks) H0 w H (d :: ds) (.ref a :: vs) (a :: L)
theorem KPL.later {K : PySem.W.Frag} {ks : List Kd} {w w1 w' : Wit} {H H1 H' : Hp} {ds : List D} {vs : List V} {L : List Addr} (x : Ext w H w1 H1) (h : KPL K ks H1 w' H' ds vs L) : KPL K ks H w' H' ds vs L := by
  induction h with
  | nil => exact .nil
  | e h t ih => exact .e h (ih x)
  | @f ks H0 w H ds vs L d a n h na t ih =>
    exact .f (x.there a n) h na (ih x)
theorem KPL.none {K : PySem.W.Frag} {ks : List Kd} {w' : Wit} {H H' : Hp} {ds : List D} {vs : List V} {L : List Addr} (h : KPL K ks H w' H' ds vs L) : ∀ a ∈ L, Nb (H a) := by
  induction h with
  | nil => intro a h; exact absurd h (by simp)
  | e h t ih => exact ih
  | f n h na t ih =>
    intro b hb
    rcases List.mem_cons.mp hb with rfl | hb
    · exact n
    · exact ih b hb
theorem KPL.len {K : PySem.W.Frag} {ks : List Kd} {w' : Wit} {H H' : Hp} {ds : List D} {vs : List V} {L : List Addr} (h : KPL K ks H w' H' ds vs L) : vs.length = ks.length := by
  induction h with
  | nil => rfl
  | e h t ih => simp [ih]
  | f n h na t ih => simp [ih]
def PostL (K : PySem.W.Frag) (ks : List Kd) (w : Wit) (H : Hp) (W : WZ) (σ : L2.St) (r : Ress) (Q : List V → Hp → Prop) : Prop := match r with
  | .ok ds S => ∀ vs H' w' L, Ext w H w' H' → Gd K w' H' S → KPL K ks H w' H' ds vs L → Q vs H'
  | .exn x S => ∀ cls dx H' w', Ext w H w' H' → Gd K w' H' S → RepX K w' H' x cls dx → W.wx cls dx σ H'
  | .stuck => False
def rdL (K : PySem.W.Frag) (ks : List Kd) (W : WZ) (O : List Nat) (f : AF) : TA := fun σ H Q => ∃ (ent : Ent W.xc) (w : Wit) (ρ : DEnv) (S : Sto), R K ent O w H σ ρ S ∧ PostL K ks w H W σ (f ρ S) Q
structure DAk (ks : List Kd) (X : Cx) (W : WZ) (O : List Nat) (es : List Expr) (f : AF) : Prop where
  pa : PA X es (rdL X.K ks W O f)
section
variable {X : Cx} {W : WZ} {O : List Nat} {e : Expr} {es : List Expr} {f : EF} {g : AF} {ks : List Kd}
theorem dak_nil : DAk [] X W O [] aNil := ⟨pa_nil.imp fun σ H Q ⟨ent, w, ρ, S, r, p⟩ => p [] H w [] (.refl _ _) r.gd .nil⟩
theorem dak_e (ha : DE .e X W O e f) (hr : DAk ks X W O es g) (hs : starEach (e :: es) X.env = (false, eval e X.env) :: starEach es X.env := by rfl) : DAk (.e :: ks) X W O (e :: es) (aCons f g) := by
  refine ⟨(pa_cons ha.pe hr.pa hs).imp ?_⟩
  rintro σ H Q ⟨ent, w, ρ, S, r, p⟩
  refine ⟨ent, w, ρ, S, r, ?_⟩
  unfold aCons at p
  cases e1 : f ρ S with
  | stuck => rw [e1] at p; exact p
  | exn x S1 => rw [e1] at p; exact p
  | ok d S1 =>
    rw [e1] at p
    refine fun v H1 w1 x1 g1 z1 => ⟨ent, w1, ρ, S1, r.later x1 g1, ?_⟩
    dsimp only at p
    cases e2 : g ρ S1 with
    | stuck => rw [e2] at p; exact p
    | exn x S2 => rw [e2] at p; exact fun cls dx H' w' y g' h => p cls dx H' w' (x1.trans y) g' h
    | ok ds S2 =>
      rw [e2] at p
      exact fun vs H2 w2 L x2 g2 z2 => p (v :: vs) H2 w2 L (x1.trans x2) g2 (.e (Rep.mono x2.le z1) (z2.later x1))
end
def putV : L2.St → List Nat → List V → L2.St
  | σ, i :: is, v :: vs => putV (σ.set i (some v)) is vs
  | σ, _, _ => σ
def ownK : List Nat → List Nat → List Kd → List Nat
  | O, i :: is, .f :: ks => ownK (i :: O) is ks
  | O, _ :: is, _ :: ks => ownK O is ks
  | O, _, _ => O
/-- no slot is set twice, none is owned -/
def slotsOk : List Nat → List Nat → List Kd → Bool
  | O, i :: is, .f :: ks => !O.contains i && slotsOk (i :: O) is ks
  | O, i :: is, _ :: ks => !O.contains i && slotsOk O is ks
  | _, [], [] => true
  | _, _, _ => false
theorem slotsOk_len : ∀ {is : List Nat} {O : List Nat} {ks : List Kd}, slotsOk O is ks = true → is.length = ks.length
  | [], _, [], _ => rfl
  | [], _, _ :: _, h => by cases h
  | i :: is, O, [], h => by cases h
  | i :: is, O, k :: ks, h => by
    cases k <;> simp only [slotsOk, Bool.and_eq_true] at h <;> simp [slotsOk_len h.2]
theorem R.puts {K : PySem.W.Frag} {Z : Option XC} {ent : Ent Z} {w : Wit} {H0 H : Hp} {S : Sto} (he : ∀ a, Nb (H0 a) → Nb (ent.H a)) : ∀ {is : List Nat} {ks : List Kd} {ds : List D} {vs : List V} {L : List Addr} {O : List Nat} {σ : L2.St} {ρ : DEnv},
    R K ent O w H σ ρ S → KPL K ks H0 w H ds vs L → slotsOk O is ks = true → (∀ j, j ∈ O → (∃ e, ρ[j]? = some (some e)) → ∀ a ∈ L, σ[j]? ≠ some (some (.ref a))) → R K ent (ownK O is ks) w H (putV σ is vs) (putD' ρ is ds) S := by
  intro is
  induction is with
  | nil =>
    intro ks ds vs L O σ ρ r h hs hd
    cases h with
    | nil => exact r
    | e _ _ => cases hs
    | f _ _ _ _ => cases hs
  | cons i is ih =>
    intro ks ds vs L O σ ρ r h hs hd
    cases h with
    | nil => cases hs
    | @e ks _ _ _ ds vs L d v h t =>
      simp only [slotsOk, Bool.and_eq_true, Bool.not_eq_true'] at hs
      have hi : i ∉ O := fun z => by rw [List.contains_iff_mem.mpr z] at hs; exact Bool.noConfusion hs.1
      refine ih (r.put hi h) t hs.2 fun j hj ⟨e, he'⟩ a ha => ?_
      have ne : i ≠ j := fun z => hi (z ▸ hj)
      rw [List.getElem?_set_ne ne] at he' ⊢
      exact hd j hj ⟨e, he'⟩ a ha
    | @f ks _ _ _ ds vs L d a n h na t =>
      simp only [slotsOk, Bool.and_eq_true, Bool.not_eq_true'] at hs
      have hi : i ∉ O := fun z => by rw [List.contains_iff_mem.mpr z] at hs; exact Bool.noConfusion hs.1
      refine ih (r.putOwn h (he a n) fun j hj _ hj2 => hd j hj hj2 a List.mem_cons_self) t hs.2 fun j hj ⟨e, he'⟩ b hb => ?_
      by_cases z : i = j
      · subst z
        intro q
        by_cases hl : i < σ.length
        · rw [List.getElem?_set_self hl] at q
          cases q
          exact na hb
        · rw [List.getElem?_eq_none (by simpa using hl)] at q; cases q
      · rw [List.getElem?_set_ne z] at he' ⊢
        rcases List.mem_cons.mp hj with rfl | hj
        · exact absurd rfl z
        · exact hd j hj ⟨e, he'⟩ b (List.mem_cons_of_mem _ hb)
theorem par_of {K : PySem.W.Frag} {L : Lp} {W : WZ} {O is : List Nat} {ks : List Kd} {f : AF} (hs : slotsOk O is ks = true) : ∀ En σ H, rdS K L W O (ownK O is ks) (sPar is f) En σ H → rdL K ks W O f σ H fun vs H1 => vs.length = ks.length ∧ (En.nx (putV σ is vs) H1 ∧ ∀ T, H1 T = none → En.nx (putV σ is vs) (upd H1 T (.tup vs))) := by
  rintro En σ H ⟨ent, w, ρ, S, r, p⟩
  refine ⟨ent, w, ρ, S, r, ?_⟩
  unfold sPar at p
  cases e1 : f ρ S with
  | stuck => rw [e1] at p; exact p
  | exn x S1 => rw [e1] at p; exact exn_of r p
  | ok ds S1 =>
    rw [e1] at p
    intro vs H1 w1 Lf x1 g1 z1
    have hlen : vs.length = ks.length := z1.len
    have r1 := r.later x1 g1
    have he : ∀ a, Nb (H a) → Nb (ent.H a) := fun a ha => r.ext.there a ha
    have hd : ∀ j, j ∈ O → (∃ e, ρ[j]? = some (some e)) → ∀ a ∈ Lf, σ[j]? ≠ some (some (.ref a)) := fun j hj ⟨e, he'⟩ a ha q => by
      obtain ⟨b, s1, s2, _⟩ := r.own j e he' hj
      rw [q] at s1; cases s1
      exact s2.nt.nb (z1.none a ha)
    refine ⟨hlen, ?_, fun T nT => ?_⟩
    · exact p w1 H1 _ (R.puts he r1 z1 hs hd)
    · have x2 : Ext w1 H1 w1 (upd H1 T (.tup vs)) := Ext.newO w1 nT
      exact p w1 _ _ ((R.puts he r1 z1 hs hd).later x2 (g1.newO nT))
section
variable {X : Cx} {W : WZ} {L : Lp} {O : List Nat} {a b c : Expr} {f : AF} {ks : List Kd} {x y z : Str} {px py pz pt pos : Pos} {kt k2 : Nat} {pt2 : Pos}
/-- the tuple path -/
def gNs : List Nat → TGs
  | [] => gNil
  | i :: is => gCons (gName i) (gNs is)
theorem gNs_of : ∀ {is : List Nat} {vs : List V} {σ : L2.St} {H : Hp} {Q : L2.St → Hp → Prop}, vs.length = is.length → Q (putV σ is vs) H → gNs is vs σ H Q
  | [], [], _, _, _, _, q => ⟨rfl, q⟩
  | [], _ :: _, _, _, _, h, _ => by cases h
  | _ :: _, [], _, _, _, h, _ => by cases h
  | i :: is, v :: vs, σ, H, Q, h, q => ⟨v, vs, rfl, gNs_of (by simpa using h) q⟩
theorem ds_parT {tgs es : List Expr} (is : List Nat) (ha : DAk ks X W O es f) (hg : PGs X tgs (gNs is)) (hs : slotsOk O is ks = true := by decide) (hlen : tgs.length = is.length := by rfl) (hz : is.length ≤ 1000 := by decide) (hc : X.calm = true := by rfl) (hn : (assignEach tgs X.env).length = tgs.length := by rfl) (hst : (assignEach tgs X.env).findIdx? (·.1) = none := by rfl)
    (hss : swapsWithSole [.Tuple tgs kt pt] (.Tuple es k2 pt2) pos.line X.env = pure false := by rfl) (hw : swappedStores [.Tuple tgs kt pt] (.Tuple es k2 pt2) X.env = pure none := by rfl) (h1 : (assignEach [.Tuple tgs kt pt] X.env).map (·.2) = [assign (.Tuple tgs kt pt) X.env] := by rfl) :
    DS X W L O (.Assign [.Tuple tgs kt pt] (.Tuple es k2 pt2) pos) (ownK O is ks) (sPar is f) := by
  refine ⟨(ps_asg (pe_tup ha.pa) (pg_tup hc hg hn hst) hss hw h1).imp ?_⟩
  rintro En σ H h
  obtain ⟨ent, w, ρ, S, r, p⟩ := par_of hs En σ H h
  refine ⟨ent, w, ρ, S, r, ?_⟩
  cases e1 : f ρ S with
  | stuck => rw [e1] at p; exact p
  | exn x S1 => rw [e1] at p; exact p
  | ok ds S1 =>
    rw [e1] at p
    intro vs H1 w1 Lf x1 g1 z1
    obtain ⟨hl, _, q⟩ := p vs H1 w1 Lf x1 g1 z1
    rw [← slotsOk_len hs] at hl
    refine ⟨by rw [hl]; exact Nat.le_trans hz (by decide), fun T nT => ?_⟩
    exact ⟨T, vs, rfl, SqT.of upd_same, by rw [hlen, hl], gNs_of hl (q T nT)⟩
end

/-! ### own lists, own dicts -/
theorem kD_kOf {d : D} {k : L2.Key} (h : kOf d = some k) : d = kD k := by
  cases d <;> simp [kOf] at h <;> subst h <;> rfl
theorem ksOf_map : ∀ {ds : List D} {ks : List L2.Key}, ksOf ds = some ks → ds = ks.map kD
  | [], ks, h => by cases h; rfl
  | d :: ds, ks, h => by
    simp only [ksOf] at h
    cases e1 : kOf d with
    | none => simp [e1] at h
    | some k =>
      cases e2 : ksOf ds with
      | none => simp [e1, e2] at h
      | some ks' => simp [e1, e2] at h; subst h; rw [kD_kOf e1, ksOf_map e2]; rfl
section
variable {K : PySem.W.Frag} {w : Wit} {d : D} {v : V} {t : D → Bool}
end
theorem RepK.tup_of {d : D} {k : List L2.Key} (h : tOf d = some k) : d = .tup (k.map kD) := by
  cases d <;> simp [tOf] at h
  rw [ksOf_map h]
section
variable {X : Cx} {W : WZ} {L : Lp} {O : List Nat} {e ek ev : Expr} {fe fk fv : EF} {k kk : Kd} {x : Str} {p pos pos' apos cpos : Pos}
theorem own_dct {K : PySem.W.Frag} {w : Wit} {H : Hp} {d : D} {a : Addr} {vs : List (L2.Key × V)} {ds : List (D × D)} (h : Own K w H d a) (r : RepK K w ds vs) : Own K w (upd H a (.dK vs)) (.dct ds) a := ⟨h.1, h.2.1, vs, upd_same, r⟩
theorem own_dtt {K : PySem.W.Frag} {w : Wit} {H : Hp} {d : D} {a : Addr} {vs : List (List L2.Key × V)} {ds : List (D × D)} (h : Own K w H d a) (r : RepT K w ds vs) : Own K w (upd H a (.dT vs)) (.dtt ds) a := ⟨h.1, h.2.1, vs, upd_same, r⟩
theorem own_lst {K : PySem.W.Frag} {w : Wit} {H : Hp} {d : D} {a : Addr} {vs : List V} {ds : List D} (h : Own K w H d a) (r : Reps K w ds vs) : Own K w (upd H a (.lst vs)) (.lst ds) a := ⟨h.1, h.2.1, vs, upd_same, r⟩
/-- an own dict gets an entry -/
theorem dput_own {K : PySem.W.Frag} {w : Wit} {H : Hp} {d dk dv d' : D} {a : Addr} {y v : V} (hs : ∀ a o, w.F a = some o → H a = some o) (h : Own K w H d a) (hk : Vw K w H dk y) (hv : Rep K w dv v) (e : setF d dk dv = some d') (hn : ∀ ds, d ≠ .lst ds) (hn2 : ∀ ks, d ≠ .dno ks) : ∃ o, DPut H a y v (upd H a o) ∧ Own K w (upd H a o) d' a := by
  have h3 := h.2.2
  cases d with
  | dct kvs =>
    obtain ⟨vs, hH, r⟩ := h3
    simp only [setF] at e
    cases e1 : kOf dk with
    | none => rw [e1] at e; cases e
    | some kk =>
      rw [e1] at e
      dsimp only at e
      split at e
      · rename_i hl
        cases e
        have ey := kOf_vw hk e1
        rw [kD_kOf e1]
        exact ⟨_, .inl ⟨vs, kk, hH, ey, by rw [← r.length]; exact lim_size hl, rfl⟩, own_dct h (r.put hv)⟩
      · cases e
  | dtt kvs =>
    obtain ⟨vs, hH, r⟩ := h3
    simp only [setF] at e
    cases e1 : tOf dk with
    | none => rw [e1] at e; cases e
    | some kk =>
      rw [e1] at e
      dsimp only at e
      split at e
      · rename_i hl
        cases e
        have ed := RepK.tup_of e1
        subst ed
        cases hk with
        | @tup b us es hb rb =>
          have eu : us = kk.map kV := ksOf_reps rb (ksOf_kD kk)
          exact ⟨_, .inr ⟨vs, kk, b, hH, rfl, by rw [hs _ _ hb, eu], by rw [← r.length]; exact lim_size hl, rfl⟩, own_dtt h (r.put hv)⟩
      · cases e
  | lst ds => exact absurd rfl (hn ds)
  | dno ks => exact absurd rfl (hn2 ks)
  | _ => exact h3.elim
/-- the dict that tells True gets a key -/
def rSetN : V → V → V → Hp → (Hp → Prop) → Prop := fun o i v H Q => ∃ a ks k, o = .ref a ∧ i = nV k ∧ v = .bl true ∧ H a = some (DNo a ks) ∧ ks.length ≤ sizeLine ∧ Q (upd H a (DNo a (putN ks k)))
theorem dn_stored (ks : List (Option Int)) (k : Option Int) : stored (ks.map dnE) (dnK k) (.bool true) = (putN ks k).map dnE := by
  unfold stored putN
  have hk : ∀ j : Option Int, decide (dnK j = dnK k) = decide (j = k) := fun j => by simp only [dnK_inj]
  rw [List.any_map]
  have ha : (ks.any ((fun kv : Option L2.Key × Value => decide (kv.1 = dnK k)) ∘ dnE)) = decide (k ∈ ks) := by
    rw [Bool.eq_iff_iff, List.any_eq_true]
    constructor
    · rintro ⟨j, hj, hd⟩
      have e : dnK j = dnK k := of_decide_eq_true hd
      exact decide_eq_true (dnK_inj.mp e ▸ hj)
    · intro h
      exact ⟨k, of_decide_eq_true h, decide_eq_true rfl⟩
  rw [ha]
  by_cases c : k ∈ ks
  · rw [if_pos (decide_eq_true c), if_pos c, List.map_map]
    refine List.map_congr_left fun j hj => ?_
    show (if dnK j = dnK k then (dnK j, Value.bool true) else (dnK j, Value.bool true)) = (dnK j, Value.bool true)
    exact ite_self _
  · rw [if_neg (by simpa using c), if_neg c, List.map_append]
    rfl
theorem set_N {X : Cx} : PSet X rSetN := by
  intro pins s σ H o i v ov iv u Q I ro ri rv h
  obtain ⟨a, ks, k, rfl, rfl, rfl, hp, hl, q⟩ := h
  cases (show ov = Value.ref a from ro)
  obtain rfl : u = Value.bool true := rv
  obtain ⟨hd, dd⟩ := dn_of (I.hok _ _ hp)
  have hz : (ks.map dnE).length ≤ sizeLine := by rw [List.length_map]; exact hl
  refine wpAny_setItem_pairs (hsz := hz) (nV_is ri) dd fun h' dd' hs => ?_
  rw [dn_stored] at dd'
  have he : ∃ q, h'.get? a = some q := let ⟨q, _, _, hq, _⟩ := dd'; ⟨q, hq⟩
  exact ⟨_, d_write I (by rw [hp]; exact True.intro) hs he (dn_ok hd dd'), q⟩
def rSetM : V → V → V → Hp → (Hp → Prop) → Prop := fun o i v H Q => rSetL o i v H Q ∨ rSetN o i v H Q
theorem set_M {X : Cx} : PSet X rSetM := fun pins s σ H o i v ov iv u Q I ro ri rv h => h.elim (set_list pins s σ H o i v ov iv u Q I ro ri rv) (set_N pins s σ H o i v ov iv u Q I ro ri rv)
theorem nput_own {K : PySem.W.Frag} {w : Wit} {H : Hp} {ks : List (Option Int)} {dk dv d' : D} {a : Addr} {y v : V} (h : Own K w H (.dno ks) a) (hk : Vw K w H dk y) (hv : Rep K w dv v) (e : setF (.dno ks) dk dv = some d') : ∃ k, y = nV k ∧ v = .bl true ∧ H a = some (DNo a ks) ∧ ks.length ≤ sizeLine ∧ Own K w (upd H a (DNo a (putN ks k))) d' a := by
  have h3 : H a = some (DNo a ks) := h.2.2
  simp only [setF] at e
  cases hv with
  | bl b =>
    cases b with
    | true =>
      dsimp only at e
      cases e1 : nOf dk with
      | none => rw [e1] at e; cases e
      | some kk =>
        rw [e1] at e
        dsimp only at e
        split at e
        · rename_i hl
          cases e
          exact ⟨kk, nOf_vw hk e1, rfl, h3, Nat.le_of_lt (lim_size hl), h.1, h.2.1, upd_same⟩
        · cases e
    | false => cases e
  | _ => cases e
theorem lput_own {K : PySem.W.Frag} {w : Wit} {H : Hp} {ds : List D} {dk dv d' : D} {a : Addr} {y v : V} (h : Own K w H (.lst ds) a) (hk : Vw K w H dk y) (hv : Rep K w dv v) (e : setF (.lst ds) dk dv = some d') : ∃ xs n j, y = .int n ∧ H a = some (.lst xs) ∧ ixN xs.length n = some j ∧ Own K w (upd H a (.lst (xs.set j v))) d' a := by
  obtain ⟨vs, hH, r⟩ := h.2.2
  simp only [setF] at e
  cases hk with
  | int n =>
    dsimp only at e
    cases e1 : ixN ds.length n with
    | none => rw [e1] at e; cases e
    | some j =>
      rw [e1] at e; cases e
      exact ⟨vs, n, j, rfl, hH, by rw [← r.length]; exact e1, own_lst h (r.set j hv)⟩
  | _ => cases e
theorem put_of {K : PySem.W.Frag} {i : Nat} (hi : i ∈ O) : ∀ En σ H, rdS K L W O O (sPut i fk fv) En σ H →
    sDPut (tVar i) (rd K kk W O fk) (rd K .e W O fv) En σ H ∨ tAsg (rd K .e W O fv) (gSub (tVar i) (rd K kk W O fk) rSetM) En σ H := by
  rintro En σ H ⟨ent, w, ρ, S, r, p⟩
  by_cases hls : ∃ ds, ρ[i]? = some (some (.lst ds))
  · obtain ⟨ds, hd⟩ := hls
    refine .inr ⟨ent, w, ρ, S, r, SPost.bind r p fun v S1 vv H1 w1 x1 g1 z1 q1 => ?_⟩
    have r1 := r.later x1 g1
    rw [hd] at q1
    obtain ⟨a, s1, o1, _⟩ := r1.own i _ hd hi
    refine ⟨.ref a, s1, ent, w1, ρ, S1, r1, SPost.bind r1 q1 fun dk S2 y H2 w2 x2 g2 z2 q2 => ?_⟩
    have r2 := r1.later x2 g2
    obtain ⟨a', s2, o2, _⟩ := r2.own i _ hd hi
    rw [s1] at s2; cases s2
    have vk := (z2.ext (H1 := H2) (.refl _ _)).vw g2
    cases e1 : setF (.lst ds) (deref S2 dk) v with
    | none => rw [e1] at q2; exact q2.elim
    | some d' =>
      rw [e1] at q2
      obtain ⟨xs, n, j, ey, hH, hj, ho⟩ := lput_own o2 vk (Rep.mono x2.le z1) e1
      exact .inl ⟨a, xs, n, j, rfl, ey, hH, hj, q2 w2 _ σ (r2.upd hi hd s1 ho)⟩
  · by_cases hno : ∃ ks, ρ[i]? = some (some (.dno ks))
    · obtain ⟨ks, hd⟩ := hno
      refine .inr ⟨ent, w, ρ, S, r, SPost.bind r p fun v S1 vv H1 w1 x1 g1 z1 q1 => ?_⟩
      have r1 := r.later x1 g1
      rw [hd] at q1
      obtain ⟨a, s1, o1, _⟩ := r1.own i _ hd hi
      refine ⟨.ref a, s1, ent, w1, ρ, S1, r1, SPost.bind r1 q1 fun dk S2 y H2 w2 x2 g2 z2 q2 => ?_⟩
      have r2 := r1.later x2 g2
      obtain ⟨a', s2, o2, _⟩ := r2.own i _ hd hi
      rw [s1] at s2; cases s2
      have vk := (z2.ext (H1 := H2) (.refl _ _)).vw g2
      cases e1 : setF (.dno ks) (deref S2 dk) v with
      | none => rw [e1] at q2; exact q2.elim
      | some d' =>
        rw [e1] at q2
        obtain ⟨k, ey, ev, hH, hl, ho⟩ := nput_own o2 vk (Rep.mono x2.le z1) e1
        exact .inr ⟨a, ks, k, rfl, ey, ev, hH, hl, q2 w2 _ σ (r2.upd hi hd s1 ho)⟩
    refine .inl ⟨ent, w, ρ, S, r, SPost.bind r p fun v S1 vv H1 w1 x1 g1 z1 q1 => ?_⟩
    have r1 := r.later x1 g1
    cases e0 : ρ[i]? with
    | none => rw [e0] at q1; exact q1.elim
    | some o => cases o with
      | none => rw [e0] at q1; exact q1.elim
      | some d =>
        rw [e0] at q1
        have hn : ∀ ds, d ≠ .lst ds := fun ds z => hls ⟨ds, by rw [e0, z]⟩
        obtain ⟨a, s1, o1, _⟩ := r1.own i _ e0 hi
        refine ⟨.ref a, s1, ent, w1, ρ, S1, r1, SPost.bind r1 q1 fun dk S2 y H2 w2 x2 g2 z2 q2 => ?_⟩
        have r2 := r1.later x2 g2
        obtain ⟨a', s2, o2, _⟩ := r2.own i _ e0 hi
        rw [s1] at s2; cases s2
        have vk := (z2.ext (H1 := H2) (.refl _ _)).vw g2
        cases e1 : setF d (deref S2 dk) v with
        | none => rw [e1] at q2; exact q2.elim
        | some d' =>
          rw [e1] at q2
          obtain ⟨o, hp, ho⟩ := dput_own g2.sub o2 vk (Rep.mono x2.le z1) e1 hn (fun ks z => hno ⟨ks, by rw [e0, z]⟩)
          exact ⟨a, _, rfl, hp, q2 w2 _ σ (r2.upd hi e0 s1 ho)⟩
theorem ds_put (i : Nat) (hu : X.A.units + 64 < cLine) (hk : DE kk X W O ek fk) (hv : DE .e X W O ev fv) (hi : i ∈ O := by decide) (hN : X.N[i]? = some x := by rfl) (hvi : Vis X.env.scope x := by first | exact Or.inl rfl | exact Or.inr (Or.inl rfl) | exact Or.inr (Or.inr rfl)) (hd : (x == ("__debug__" : Str)) = false := by decide) (hcd : (x == ("__classdict__" : Str)) = false := by decide)
    (hsw : swapsWith ev (some (.Subscript (.Name x p) ek pos')) pos.line X.env = pure false := by rfl)
    (hs : swapsWithSole [.Subscript (.Name x p) ek pos'] ev pos.line X.env = pure false := by rfl) (hw : swappedStores [.Subscript (.Name x p) ek pos'] ev X.env = pure none := by rfl)
    (h1 : (assignEach [.Subscript (.Name x p) ek pos'] X.env).map (·.2) = [assign (.Subscript (.Name x p) ek pos') X.env] := by rfl)
    (ha : ∀ v, assign (.Subscript (.Name x p) ek pos') X.env v = (do
      let ov ← holding [v] (eval (.Name x p) X.env)
      let iv ← holding [v, ov] (eval ek X.env)
      standAt pos'
      holding [v, ov, iv] (setItem ov iv v)
      release [v, ov, iv] []) := by intro _; rfl) :
    DS X W L O (.Assign [.Subscript (.Name x p) ek pos'] ev pos) O (sPut i fk fv) :=
  ⟨((ps_dput (by omega) (pe_var hN hvi hd hcd) hk.pe hv.pe hsw).or (ps_asg hv.pe (pg_sub (pe_var hN hvi hd hcd) hk.pe set_M ha) hs hw h1)).imp (put_of hi)⟩
theorem app_of {K : PySem.W.Frag} {i : Nat} (hi : i ∈ O) : ∀ En σ H, rdS K L W O O (sApp i fe) En σ H → tDrop (tBM K "list" rAppend (tVar i) (tCons (rd K .e W O fe) tNil)) En σ H := by
  rintro En σ H ⟨ent, w, ρ, S, r, p⟩
  unfold sApp at p
  match e0 : ρ[i]?, p with
  | some (some (.lst ds)), p =>
    obtain ⟨a, s1, o1, _⟩ := r.own i _ e0 hi
    obtain ⟨vs0, hH0, _⟩ := o1.2.2
    refine ⟨.ref a, s1, .inl ⟨rfl, vs0, SqL.of hH0⟩, ent, w, ρ, S, r, SPost.bind r p fun d S1 v H1 w1 x1 g1 z1 q1 => ?_⟩
    have r1 := r.later x1 g1
    obtain ⟨a', s2, o2, _⟩ := r1.own i _ e0 hi
    rw [s1] at s2; cases s2
    obtain ⟨vs, hH, rr⟩ := o2.2.2
    split at q1
    · rename_i hl
      exact ⟨a, vs, v, rfl, rfl, hH, by rw [← rr.length]; exact lim_size hl, q1 w1 _ σ (r1.upd hi e0 s1 (own_lst o2 (rr.append (.cons z1 .nil))))⟩
    · exact q1.elim
theorem ds_app (i : Nat) (he : DE .e X W O e fe) (hi : i ∈ O := by decide) (hN : X.N[i]? = some x := by rfl) (hvi : Vis X.env.scope x := by first | exact Or.inl rfl | exact Or.inr (Or.inl rfl) | exact Or.inr (Or.inr rfl)) (hd : (x == ("__debug__" : Str)) = false := by decide) (hcd : (x == ("__classdict__" : Str)) = false := by decide)
    (hsw : swapsWith (.Call (.Attribute (.Name x p) "append" apos) [e] [] cpos) none pos.line X.env = pure false := by rfl)
    (hb : attributeBase (.Name x p) "append" X.env (eval (.Name x p) X.env) = eval (.Name x p) X.env := by rfl)
    (hf : (((((backTo cpos (starEach [e] X.env)).all fun x => !x.fst) && (backToKw cpos (keywordEach [] X.env)).all fun x => x.fst.isSome) && decide (([e].length + ([] : List Keyword).length + if ([] : List Keyword).isEmpty = true then 0 else 1) < 30)) = true) := by rfl)
    (hl : (apos.endLine == cpos.line) = true := by rfl) (hse : starEach [e] X.env = (false, eval e X.env) :: starEach [] X.env := by rfl) (hpl : ((backTo cpos (starEach [] X.env)).any fun x => x.fst) = false := by rfl) :
    DS X W L O (.Expr (.Call (.Attribute (.Name x p) "append" apos) [e] [] cpos) pos) O (sApp i fe) :=
  ⟨(ps_expr (pe_bm PySem.F.plainAttrs_list PySem.F.slot_list_append PySem.F.type_list_append mt_append (pe_var hN hvi hd hcd) (pa_cons he.pe pa_nil hse) hb hf hl hse hpl) hsw).imp (app_of hi)⟩
end
end DL

/-! lists of the store changed -/
namespace DL
open PySem PySem.Spec PyProof.Rows L2

section
variable {X : Cx} {W : WZ} {L : Lp} {O : List Nat} {e eo ek ev : Expr} {fe fo fk fv : EF} {k ko kk : Kd} {x : Str} {p pos pos' apos cpos : Pos}
def setO (o : SO) (k v : D) : Option SO := match o with
  | .lst ds => (match k with
    | .int i => (ixN ds.length i).map fun j => .lst (ds.set j v)
    | _ => none)
  | _ => none
def sPutO (fo fk fv : EF) : SF := fun ρ S => sBind (fv ρ S) ρ fun v S1 => sBind (fo ρ S1) ρ fun o S2 => match o with
  | .obj n => sBind (fk ρ S2) ρ fun k S3 => (match S3[n]? with
    | some so => (match setO so (deref S3 k) v with
      | some so' => .nx ρ (S3.set n so')
      | none => .stuck)
    | none => .stuck)
  | _ => .stuck
theorem putO_of {K : PySem.W.Frag} : ∀ En σ H, rdS K L W O O (sPutO fo fk fv) En σ H → tAsg (rd K .e W O fv) (gSub (rd K .e W O fo) (rd K kk W O fk) rSetL) En σ H := by
  rintro En σ H ⟨ent, w, ρ, S, r, p⟩
  refine ⟨ent, w, ρ, S, r, SPost.bind r p fun v S1 vv H1 w1 x1 g1 z1 q1 => ?_⟩
  have r1 := r.later x1 g1
  refine ⟨ent, w1, ρ, S1, r1, SPost.bind r1 q1 fun o S2 ov H2 w2 x2 g2 z2 q2 => ?_⟩
  have r2 := r1.later x2 g2
  cases o with
  | obj n =>
    dsimp only at q2
    have z2 : Rep K w2 (.obj n) ov := z2
    cases z2 with
    | obj hm =>
      refine ⟨ent, w2, ρ, S2, r2, SPost.bind r2 q2 fun dk S3 y H3 w3 x3 g3 z3 q3 => ?_⟩
      have r3 := r2.later x3 g3
      have vk := (z3.ext (H1 := H3) (.refl _ _)).vw g3
      cases e1 : S3[n]? with
      | none => rw [e1] at q3; exact q3.elim
      | some so =>
        rw [e1] at q3
        dsimp only at q3
        have hp := g3.sto n so e1
        have ephi : w3.phi n = w2.phi n := x3.le.phi n hm
        cases so with
        | lst ds =>
          obtain ⟨vs, hH, rr⟩ := hp
          simp only [setO] at q3
          generalize deref S3 dk = DK at vk q3
          cases vk with
          | int i =>
            dsimp only at q3
            cases e2 : ixN ds.length i with
            | none => rw [e2] at q3; exact q3.elim
            | some j =>
              rw [e2] at q3
              have hv : Rep K w3 v vv := (Rep.mono x2.le z1).mono x3.le
              refine ⟨w2.phi n, vs, i, j, rfl, rfl, by rw [← ephi]; exact hH, by rw [← rr.length]; exact e2, ?_⟩
              rw [← ephi]
              exact q3 w3 _ σ (R.sto r3 e1 ⟨_, upd_same, rr.set j hv⟩)
          | _ => exact q3.elim
        | _ => exact q3.elim
  | _ => exact q2.elim
theorem ds_putO (ho : DE .e X W O eo fo) (hk : DE kk X W O ek fk) (hv : DE .e X W O ev fv)
    (hs : swapsWithSole [.Subscript eo ek pos'] ev pos.line X.env = pure false := by rfl) (hw : swappedStores [.Subscript eo ek pos'] ev X.env = pure none := by rfl)
    (h1 : (assignEach [.Subscript eo ek pos'] X.env).map (·.2) = [assign (.Subscript eo ek pos') X.env] := by rfl)
    (ha : ∀ v, assign (.Subscript eo ek pos') X.env v = (do
      let ov ← holding [v] (eval eo X.env)
      let iv ← holding [v, ov] (eval ek X.env)
      standAt pos'
      holding [v, ov, iv] (setItem ov iv v)
      release [v, ov, iv] []) := by intro _; rfl) :
    DS X W L O (.Assign [.Subscript eo ek pos'] ev pos) O (sPutO fo fk fv) :=
  ⟨(ps_asg hv.pe (pg_sub ho.pe hk.pe set_list ha) hs hw h1).imp putO_of⟩
end
/-- the row that is laid out at first: the list [a, ..] becomes an object of the store -/
def sNewO (i : Nat) (f : AF) : SF := fun ρ S => match f ρ S with
  | .ok ds S1 => .nx (ρ.set i (some (.obj S1.length))) (S1 ++ [.lst ds])
  | .exn x S1 => .exn x ρ S1
  | .stuck => .stuck
section
variable {K : PySem.W.Frag} {w : Wit} {H : Hp} {S : Sto} {a : Addr} {o : HO} {so : SO}
end
section
variable {X : Cx} {W : WZ} {L : Lp} {O : List Nat} {es : List Expr} {fa : AF} {x : Str} {pos pos' lpos : Pos}
theorem newO_of {K : PySem.W.Frag} {i : Nat} (hO : i ∉ O) (hz : es.length ≤ 1000) (hlen : ∀ ρ S ds S1, fa ρ S = .ok ds S1 → ds.length = es.length) : ∀ En σ H, rdS K L W O O (sNewO i fa) En σ H → tAsg (tLst (rdA K (PRep K) W O fa)) (gName i) En σ H := by
  rintro En σ H ⟨ent, w, ρ, S, r, p⟩
  refine ⟨ent, w, ρ, S, r, ?_⟩
  unfold sNewO at p
  cases e1 : fa ρ S with
  | stuck => rw [e1] at p; exact p
  | exn x S1 => rw [e1] at p; exact exn_of r p
  | ok ds S1 =>
    rw [e1] at p
    intro vs H1 w1 x1 g1 z
    have z : Reps K w1 ds vs := z
    refine ⟨by rw [← z.length, hlen _ _ _ _ e1]; exact Nat.le_trans hz (by decide), fun a na => ?_⟩
    have r1 := r.later x1 g1
    have x2 := Ext.add (o := .lst vs) g1 na
    have g2 := g1.add (so := .lst ds) na ⟨vs, upd_same, z⟩
    refine p _ _ _ ((r1.later x2 g2).put hO ?_)
    have : (w1.add a).phi S1.length = a := by simp [Wit.add, g1.len]
    have q : Rep K (w1.add a) (.obj S1.length) (.ref ((w1.add a).phi S1.length)) := .obj (by simp [Wit.add, g1.len])
    rw [this] at q
    exact q
theorem ds_newO (i : Nat) (ha : DA X W O es fa) (hN : X.N.Nodup) (hlen : ∀ ρ S ds S1, fa ρ S = .ok ds S1 → ds.length = es.length) (hz : es.length ≤ 1000 := by decide) (hO : i ∉ O := by decide) (hi : X.N[i]? = some x := by rfl) (hx : Loc X.env.scope x := by first | exact Or.inl rfl | exact Or.inr rfl) (hs : swapsWith (.List es lpos) (some (.Name x pos')) pos.line X.env = pure false := by rfl) (hf : X.fn x = true ∨ X.env.scope.names.lookup x = some .local := by first | exact .inl rfl | exact .inr rfl | assumption) :
    DS X W L O (.Assign [.Name x pos'] (.List es lpos) pos) O (sNewO i fa) := ⟨(ps_set hN hi hx (pe_lst ha.pa) hs hf).imp (newO_of hO hz hlen)⟩
end
end DL

/-! defs known by name; constants of the module; more operators -/
namespace L2
open PySem PySem.Spec PyProof.Rows
theorem tuple_mul1 (l : Addr) (items : Array Value) (n : Nat) (dd : Option Addr) (sl : Array (Option Value)) (u : Tok) :
    Meets (Builtin.«tuple.__mul__» ⟨[.ref l, .int 1 u], []⟩) (fun _ R s => s.heap.get? l = some { cls := .type "tuple", dict := dd, data := .seq items n, slots := sl } ∧ R (.ok (.ret (Value.ref l))) s) :=
  .of_wp fun prog w A R s h => by
    obtain ⟨hp, g, d, tk, os⟩ := s
    obtain ⟨hl, h⟩ := h
    have f1 := AutoSeq1.idx_int
    wp_walk using wpAny_loadPart' hl
    exact ⟨_, rfl, h⟩
theorem tuple_mul0 (l : Addr) (items : Array Value) (n : Nat) (dd : Option Addr) (sl : Array (Option Value)) (u : Tok) (hi : items.isEmpty = false) :
    Meets (Builtin.«tuple.__mul__» ⟨[.ref l, .int 0 u], []⟩) (fun _ R s => s.heap.get? l = some { cls := .type "tuple", dict := dd, data := .seq items n, slots := sl } ∧
      R (.ok (.ret (Value.ref s.heap.objs.size))) { s with heap := s.heap.push { cls := Value.type "tuple", data := Data.seq #[] }, toks := s.toks }) :=
  .of_wp fun prog w A R s h => by
    obtain ⟨hp, g, d, tk, os⟩ := s
    obtain ⟨hl, h⟩ := h
    have f1 := AutoSeq1.idx_int
    have c1 : (items.isEmpty || (0 : Int) == 1) = false := by simp [hi]
    wp_walk using wpAny_loadPart' hl
    exact ⟨_, rfl, h⟩
def rRepT01 (K : PySem.W.Frag) : R2 := fun x y H Q => ∃ l k xs, x = .ref l ∧ y = .int k ∧ SqT K H l xs ∧ xs ≠ [] ∧ ((k = 1 ∧ Q (.ref l) H) ∨ (k = 0 ∧ ∀ p, H p = none → Q (.ref p) (upd H p (.tup []))))
theorem op_repT01 {X : Cx} : OpR X (binaryOp .Mult) (rRepT01 X.K) := by
  intro pins s σ H x y v u Q I rx ry h
  obtain ⟨l, k, xs, rfl, rfl, hT, hne, q⟩ := h
  cases rx
  obtain ⟨t, rfl⟩ := ry
  obtain ⟨its, r, ⟨⟨cls, dd, data, sl⟩, ho, hc, n, hd⟩, hs⟩ := I.tuple hT
  simp only at hc hd
  subst hc hd
  have hle : its.length = xs.length := r.length.symm
  have hn : its ≠ [] := fun e => hne (by
    rw [e] at hle
    exact List.eq_nil_of_length_eq_zero hle.symm)
  have hi : its.toArray.isEmpty = false := by
    cases its with
    | nil => exact absurd rfl hn
    | cons a b => rfl
  rcases q with ⟨rfl, q⟩ | ⟨rfl, q⟩
  · refine wpAny_binaryOp_repeat_ref (T := "tuple") (U := "int") (by decide) ⟨_, ho, rfl⟩ (fun s' => typeIs_int s' 1 t) noFill_tuple_mul F.fills_int_mul F.slot_int_rmul repeat_tuple F.slot_int_index.lookup
      (call_meets F.slot_int_rmul (typeIs_int s 1 t) F.entry_int_rmul (F.args_int_rmul_2 _ _) (int_rmul_tuple 1 t l its.toArray n dd sl)
        ⟨ho, rfl, ⟨_, ho, rfl⟩, call_meets F.slot_tuple_mul ⟨_, ho, rfl⟩ F.entry_tuple_mul (F.args_tuple_mul_2 _ _) (tuple_mul1 l its.toArray n dd sl t) ⟨ho, ?_⟩⟩)
    exact ⟨.ref l, H, I, rfl, q⟩
  · refine wpAny_binaryOp_repeat_ref (T := "tuple") (U := "int") (by decide) ⟨_, ho, rfl⟩ (fun s' => typeIs_int s' 0 t) noFill_tuple_mul F.fills_int_mul F.slot_int_rmul repeat_tuple F.slot_int_index.lookup
      (call_meets F.slot_int_rmul (typeIs_int s 0 t) F.entry_int_rmul (F.args_int_rmul_2 _ _) (int_rmul_tuple 0 t l its.toArray n dd sl)
        ⟨ho, rfl, ⟨_, ho, rfl⟩, call_meets F.slot_tuple_mul ⟨_, ho, rfl⟩ F.entry_tuple_mul (F.args_tuple_mul_2 _ _) (tuple_mul0 l its.toArray n dd sl t hi) ⟨ho, ?_⟩⟩)
    refine ⟨.ref s.heap.objs.size, _, I.laid (t' := s.toks) (o := .tup []) (fun b ob q => Heap.get?_push_of_some _ q) (Nat.le_refl _) ?_, rfl, q _ (I.hok.fresh (Nat.le_refl _))⟩
    exact ⟨Nat.zero_le _, [], .nil, IsTup.new _ _⟩
/-- truth, of locked dicts too -/
def TruV2 (K : PySem.W.Frag) (x : V) (H : Hp) (k : Bool) : Prop := TruV K x H k ∨ ∃ p o kvs, x = .ref p ∧ H p = some (.frz o (.dK kvs)) ∧ k = !kvs.isEmpty
theorem tru_ok2 {X : Cx} : TruR X (fun x H Q => ∃ k, TruV2 X.K x H k ∧ Q k H) := by
  intro pins s σ H x u Q I rx h
  obtain ⟨k, h, q⟩ := h
  rcases h with h | ⟨p, o, kvs, rfl, hx, rfl⟩
  · exact tru_ok pins s σ H x u Q I rx ⟨k, h, q⟩
  · cases rx
    obtain ⟨hz, hS, vs, r, m⟩ : kvs.length ≤ sizeLine ∧ (p == sysModules) = false ∧ ∃ vs, KV kvs vs ∧ s.heap.DictOf (mixKind X.prog X.w) p vs := (show ObjOk X.prog X.w H s.heap p (.dK kvs) from (Rd.ok (.inr ⟨o, hx⟩) I.hok))
    have hlen : kvs.length = vs.length := Paired.length r
    have l63 := line63
    exact wpAny_truthy_dict hS m (by omega) ⟨H, I.tok _, by rw [isEmpty_kv r]; exact q⟩
theorem pt_truth2 {X : Cx} {a : Expr} {ta : TE} (ha : PE X a ta) (he : ∀ whole, isTrue a X.env whole = (do let v ← whole; standAt a.pos; holding [v] (truthy v))) :
    PT X a (fun σ H Q => ta σ H fun x H' => ∃ k, TruV2 X.K x H' k ∧ Q k H') := by
  refine ⟨fun pins s σ H Q I h => ?_⟩
  exact isTrue_plain (thn (ha.run pins s σ H _ I h) fun v s1 ⟨x, H1, I1, r1, q1⟩ => tru_ok2 pins s1 σ H1 x v Q I1 r1 q1) (he _)
end L2
namespace DL
open PySem PySem.Spec PyProof.Rows L2

/-- the def x, known by name, keeps ff -/
structure Fok (P : Program) (w : World) (K : PySem.W.Frag) (mg : Str → Option Value) (base : Heap) (x : Str) (k : Nat) (ps : List Str) (ff : FF) : Prop where
  ex : ∃ fd, FnOk P w K mg base (L2.CX P w) k (He.ga K x) fd ps (spD K ps.length ff) ∧ Binds K fd ps [] ∧ PySem.W.keepIn K (.ref (He.ga K x)) = true ∧ mg x = some (.ref (He.ga K x))
section
variable {X : Cx} {W : WZ} {O : List Nat} {k : Nat} {ps : List Str} {ff : FF} {x : Str} {p pos : Pos} {e a b : Expr} {es : List Expr} {fa : AF} {f g : EF} {ka kb : Kd}
theorem de_fn (h : Fok X.prog X.w X.K X.mg X.base x k ps ff) (hr : Room k X.A) (tk : Takes X W.wx) (ha : DA X W O (e :: es) fa)
    (hlen : ∀ ρ S ds S1, fa ρ S = .ok ds S1 → ds.length = ps.length) (hg : Gl X x := by rfl)
    (hdb : (x == ("__debug__" : Str)) = false := by decide) (he : starEach (e :: es) X.env = (false, eval e X.env) :: starEach es X.env := by rfl) (hpl : (backTo pos (starEach es X.env)).any (·.1) = false := by rfl) :
    DE .e X W O (.Call (.Name x p) (e :: es) [] pos) (eCall ff fa) := by
  obtain ⟨fd, F, hb, hk, hm⟩ := h.ex
  exact de_call F hr hm hk hb tk ha hlen hg hdb he hpl
/-- a module's text, number -/
theorem de_gstr {z : Str} (hm : ∃ t, X.mg x = some (.str z t)) (hg : Gl X x := by rfl) (hd : (x == ("__debug__" : Str)) = false := by decide) : DE .e X W O (.Name x pos) (eC (.str z)) := by
  obtain ⟨t, hm⟩ := hm
  exact de_glob (v := .str z) hm ⟨t, rfl⟩ (fun _ => .str z) hg hd
theorem de_gint {z : Int} (hm : ∃ t, X.mg x = some (.int z t)) (hg : Gl X x := by rfl) (hd : (x == ("__debug__" : Str)) = false := by decide) : DE .e X W O (.Name x pos) (eC (.int z)) := by
  obtain ⟨t, hm⟩ := hm
  exact de_glob (v := .int z) hm ⟨t, rfl⟩ (fun _ => .int z) hg hd
theorem op_sign : OpR X (compareOp .In) (r2 X.K .e signF) := by
  intro pins s σ H x y v u Q I rx ry ⟨w, S, d1, d2, d, g, k1, k2, e, q⟩
  have v1 := k1.vw g
  have v2 := k2.vw g
  generalize deref S d1 = D1 at v1 e
  generalize deref S d2 = D2 at v2 e
  cases v1 with
  | str a =>
    cases v2 with
    | str z =>
      simp only [signF] at e
      cases ha : a.cps.toList with
      | nil => rw [ha] at e; cases e
      | cons c r => cases r with
        | cons _ _ => rw [ha] at e; cases e
        | nil =>
          rw [ha] at e; cases e
          have ea : a = ⟨#[c]⟩ := by
            obtain ⟨ar⟩ := a
            have : ar = #[c] := by apply Array.toList_inj.mp; exact ha
            rw [this]
          subst ea
          exact op_in_sign pins s σ H _ _ v u Q I rx ry ⟨c, z, rfl, rfl, q _ H w (.refl _ _) g (.bl _)⟩
    | _ => cases e
  | _ => cases v2 <;> cases e
/-- [..] * n -/
def eRep (fa fb : EF) : EF := fun ρ S => (fa ρ S).bind fun x S1 => (fb ρ S1).bind fun y S2 => match x, y with
  | .lst ds, .int n => if ds.length * n.toNat < LIM ∧ -(2 ^ 63) ≤ n ∧ n < 2 ^ 63 then .ok (.lst (List.replicate n.toNat ds).flatten) S2 else .stuck
  | _, _ => .stuck
theorem Reps.rep {K : PySem.W.Frag} {w : Wit} {ds : List D} {vs : List V} (h : Reps K w ds vs) : ∀ n : Nat, Reps K w (List.replicate n ds).flatten (List.replicate n vs).flatten
  | 0 => .nil
  | n + 1 => by simp only [List.replicate_succ, List.flatten_cons]; exact h.append (Reps.rep h n)
theorem rep_of {K : PySem.W.Frag} : ∀ σ H Q, rd K .f W O (eRep f g) σ H Q → tOp rRep (rd K .f W O f) (rd K kb W O g) σ H Q := by
  rintro σ H Q ⟨ent, w, ρ, S, r, p⟩
  refine ⟨ent, w, ρ, S, r, p.bind fun d S1 v H1 w1 x1 g1 z1 p1 => ?_⟩
  refine ⟨ent, w1, ρ, S1, r.later x1 g1, p1.bind fun d2 S2 v2 H2 w2 x2 g2 z2 p2 => ?_⟩
  obtain ⟨a, rfl, n, o⟩ := z1
  have o2 := o.ext x2
  cases d with
  | lst ds =>
    cases d2 with
    | int k =>
      dsimp only at p2
      split at p2
      · rename_i hc
        obtain ⟨_, _, vs, hH, rr⟩ := o2
        have e2 : v2 = .int k := by
          rcases (z2.b : KP K .b H1 w2 H2 (.int k) v2) with h | ⟨_, _, h⟩
          · cases h; rfl
          · exact h.2.2.elim
        subst e2
        refine ⟨a, k, vs, rfl, rfl, hH, hc.2.1, hc.2.2, by rw [← rr.length]; exact Nat.le_of_lt (lim_size hc.1), fun p np => ?_⟩
        exact p2 _ _ w2 (Ext.newO w2 np) (g2.newO np) ⟨p, rfl, np, g2.noneF np, g2.nophi np, _, upd_same, rr.rep _⟩
      · exact p2.elim
    | _ => exact p2.elim
  | _ => exact p2.elim
theorem de_rep (ha : DE .f X W O a f) (hb : DE kb X W O b g) : DE .f X W O (.BinOp a .Mult b pos) (eRep f g) := ⟨(pe_op op_rep ha.pe hb.pe).imp rep_of⟩
/-- (..) * n -/
def repTF (x y : D) : Option D := match x, y with
  | .tup ds, .int n => if 0 ≤ n ∧ n ≤ 1000 ∧ ds.length ≤ 1000 ∧ ds ≠ [] then some (.tup (List.replicate n.toNat ds).flatten) else none
  | _, _ => none
theorem op_repTd : OpR X (binaryOp .Mult) (r2 X.K .e repTF) := by
  intro pins s σ H x y v u Q I rx ry ⟨w, S, d1, d2, d, g, k1, k2, e, q⟩
  have v1 := k1.vw g
  have v2 := k2.vw g
  generalize deref S d1 = D1 at v1 e
  generalize deref S d2 = D2 at v2 e
  cases v1 with
  | @tup a vs ds h rr =>
    cases v2 with
    | int k =>
      simp only [repTF] at e
      split at e
      · rename_i hc
        cases e
        have hl := rr.length
        have hne : vs ≠ [] := fun z => hc.2.2.2 (List.eq_nil_of_length_eq_zero (by rw [hl, z]; rfl))
        by_cases k1 : k = 1
        · subst k1
          refine op_repT01 pins s σ H _ _ v u Q I rx ry ⟨a, 1, vs, rfl, rfl, SqT.of (g.sub _ _ h), hne, .inl ⟨rfl, ?_⟩⟩
          have : (List.replicate (1 : Int).toNat ds).flatten = ds := by simp
          rw [this] at q
          exact q _ _ w (.refl _ _) g (.tup h rr)
        · by_cases k0 : k = 0
          · subst k0
            refine op_repT01 pins s σ H _ _ v u Q I rx ry ⟨a, 0, vs, rfl, rfl, SqT.of (g.sub _ _ h), hne, .inr ⟨rfl, fun p np => ?_⟩⟩
            exact q _ _ (w.new p (.tup [])) (Ext.newF g np) (g.new np) (.tup upd_same .nil)
          · refine op_repT pins s σ H _ _ v u Q I rx ry ⟨a, k, vs, rfl, rfl, SqT.of (g.sub _ _ h), hne, by omega, hc.2.1, by rw [← hl]; exact hc.2.2.1, fun p np => ?_⟩
            exact q _ _ (w.new p (.tup (List.replicate k.toNat vs).flatten)) (Ext.newF g np) (g.new np) (.tup upd_same ((rr.rep _).mono (Le.new (g.noneF np))))
      · cases e
    | _ => cases e
  | _ => cases v2 <;> cases e
/-- what counts as true -/
def truB : D → Option Bool
  | .non => some false
  | .bl b => some b
  | .int i => some (decide (i ≠ 0))
  | .str z => if z.length < LIM then some ((z.length : Int) != 0) else none
  | .lst ds => some (!ds.isEmpty)
  | .tup ds => some (!ds.isEmpty)
  | .ctp ds => some (!ds.isEmpty)
  | .dct ds => some (!ds.isEmpty)
  | _ => none
theorem de_newK : DE .f X W O (.Dict [] [] pos) eNewK := ⟨pe_dnewK.imp fun σ H Q ⟨ent, w, ρ, S, r, p⟩ q nq => p _ _ w (Ext.newO w nq) (r.gd.newO nq) ⟨q, rfl, nq, r.gd.noneF nq, r.gd.nophi nq, _, upd_same, .nil⟩⟩
end
section
variable {X : Cx} {W : WZ} {O : List Nat} {elt tg iter tg1 iter1 : Expr} {ifs ifs1 : List Expr} {scope : Scope} {own : List (Str × Nat)} {vs1 : List Nat} {pos : Pos} {fi fi1 : IF} {g g1 : GF} {t t1 : TG} {fc fc1 fe : EF}
theorem de_lc2 (hN : X.N.Nodup) (ok : BlkOk X.N X.env.scope scope own) (hv : ∀ i, i ∈ vs1 → i ∈ own.map (·.2)) (hi : DI X W O tg iter fi)
    (hgo : GOk X.K O g t) (hg : ∀ (s : Shared) (H : Hp) (C : Addr) (cl : List (Str × Addr)) (fp : List Addr), PG (X.blk s H scope (compEnvC scope cl C X.env) fp) tg t) (ho : TOwn t (own.map (·.2)))
    (ht : ∀ (s : Shared) (H : Hp) (C : Addr) (cl : List (Str × Addr)) (fp : List Addr), DCs (X.blk s H scope (compEnvC scope cl C X.env) fp) W O ifs fc)
    (hi1 : ∀ (s : Shared) (H : Hp) (C : Addr) (cl : List (Str × Addr)) (fp : List Addr), DI (X.blk s H scope (compEnvC scope cl C X.env) fp) W.no O tg1 iter1 fi1)
    (hgo1 : GOk X.K O g1 t1) (hg1 : ∀ (s : Shared) (H : Hp) (C : Addr) (cl : List (Str × Addr)) (fp : List Addr), PG (X.blk s H scope (compEnvC scope cl C X.env) fp) tg1 t1) (ho1 : TOwn t1 vs1)
    (ht1 : ∀ (s : Shared) (H : Hp) (C : Addr) (cl : List (Str × Addr)) (fp : List Addr), DCs (X.blk s H scope (compEnvC scope cl C X.env) fp) W O ifs1 fc1)
    (he : ∀ (s : Shared) (H : Hp) (C : Addr) (cl : List (Str × Addr)) (fp : List Addr), DE .e (X.blk s H scope (compEnvC scope cl C X.env) fp) W.no O elt fe)
    (hO : ∀ i, i ∈ own.map (·.2) → i ∉ O := by decide) (hO1 : ∀ i, i ∈ vs1 → i ∉ O := by decide) (hc : X.calm = true := by rfl) (hs : ∀ x, foldedSetIterable iter X.env x = pure x := by intro _; rfl) (hs1 : ∀ env x, foldedSetIterable iter1 env x = pure x := by intro _ _; rfl) :
    DE .f X W O (.ListComp elt [⟨tg, iter, ifs, 0⟩, ⟨tg1, iter1, ifs1, 0⟩] scope pos) (eLc2 (own.map (·.2)) vs1 fi g fc fi1 g1 fc1 fe) :=
  ⟨(pe_lc2 (pos := pos) (tt := rdT X.K W.no O fc) (tt1 := rdT X.K W.no O fc1) (te := rd X.K .e W.no O fe) (wi1 := rdI X.K W.no O fi1) hc hN hi.pi ok hv hg (fun s H C cl fp => (ht s H C cl fp).pts) (fun s H C cl fp => (hi1 s H C cl fp).pi) hg1 (fun s H C cl fp => (ht1 s H C cl fp).pts) (fun s H C cl fp => (he s H C cl fp).pe) hs hs1).imp (lc2_of hgo ho hgo1 ho1 hO hO1)⟩
end
/-! ### truth -/
def eTru (fa : EF) : EF := fun ρ S => (fa ρ S).bind fun x S1 => match truB (deref S1 x) with
  | some b => .ok (.bl b) S1
  | none => .stuck
section
variable {X : Cx} {W : WZ} {O : List Nat} {a : Expr} {fa : EF} {k : Kd}
theorem tru_of {K : PySem.W.Frag} {w : Wit} {H : Hp} {S : Sto} (g : Gd K w H S) {d : D} {v : V} {b : Bool} (h : Vw K w H d v) (e : truB d = some b) : TruV2 K v H b := by
  cases h with
  | non => cases e; exact .inl rfl
  | bl c => cases e; exact .inl rfl
  | int i =>
    simp only [truB, Option.some.injEq] at e
    subst e
    refine .inl ?_
    show decide (i ≠ 0) = (i != 0)
    by_cases q : i = 0 <;> simp [q]
  | str z =>
    simp only [truB] at e
    split at e
    · rename_i hl
      cases e
      exact .inl ⟨Nat.le_of_lt (lim_size hl), rfl⟩
    · cases e
  | tup h r =>
    cases e
    refine .inl (.inr (.inl ⟨_, SqT.of (g.sub _ _ h), ?_⟩))
    cases r <;> rfl
  | ctp h r =>
    cases e
    refine .inl (.inr (.inl ⟨_, SqT.monoF none_le h, ?_⟩))
    cases r <;> rfl
  | lst h r =>
    cases e
    refine .inl (.inl ⟨_, h, ?_⟩)
    cases r <;> rfl
  | dK h r =>
    cases e
    rcases h with h | ⟨o, h⟩
    · refine .inl (.inr (.inr ⟨_, h, ?_⟩))
      cases r <;> rfl
    · refine .inr ⟨_, o, _, rfl, h, ?_⟩
      cases r <;> rfl
  | _ => cases e
theorem etru_of {K : PySem.W.Frag} : ∀ σ H Q, rdT K W O (eTru fa) σ H Q → (rd K k W O fa) σ H fun x H' => ∃ b, TruV2 K x H' b ∧ Q b H' := by
  rintro σ H Q ⟨ent, w, ρ, S, r, p⟩
  refine ⟨ent, w, ρ, S, r, ?_⟩
  unfold eTru at p
  cases e1 : fa ρ S with
  | stuck => rw [e1] at p; exact p
  | exn x S1 => rw [e1] at p; exact p
  | ok d S1 =>
    rw [e1] at p
    intro v H1 w1 x1 g1 z1
    have v1 := (z1.ext (H1 := H1) (.refl _ _)).vw g1
    simp only [Res.bind_ok] at p
    cases e2 : truB (deref S1 d) with
    | none => rw [e2] at p; exact p.elim
    | some b =>
      rw [e2] at p
      obtain ⟨b', eb, p⟩ := p
      cases eb
      exact ⟨b, tru_of g1 v1 e2, p H1 w1 x1 g1⟩
/-- a value as a test -/
theorem dt_tru (ha : DE k X W O a fa) (he : ∀ whole, isTrue a X.env whole = (do let v ← whole; standAt a.pos; holding [v] (truthy v)) := by intro _; rfl) : DT X W O a (eTru fa) := ⟨(pt_truth2 ha.pe he).imp etru_of⟩
end
theorem hu_64 {k : Nat} {A : Around} (r : Room k A) : A.units + 64 < cLine := r.units
theorem hu_65 {k : Nat} {A : Around} (r : Room k A) : A.units + 65 < cLine := by have := r.un; omega
def anyB (t : String) : List String → Option Bool
  | [] => some false
  | c :: r => match kitB t c with
    | some true => some true
    | some false => anyB t r
    | none => none
theorem anyB_kit {K : PySem.W.Frag} {t : String} : ∀ {ns : List String} {b : Bool}, anyB t ns = some b → PySem.W.kitAny K (.type t) (ns.map .type) = some b
  | [], _, h => by cases h; rfl
  | c :: r, b, h => by
    unfold anyB at h
    rw [List.map_cons]
    unfold PySem.W.kitAny
    cases e : kitB t c with
    | none => rw [e] at h; cases h
    | some x =>
      rw [e] at h
      rw [kit_ty e]
      cases x with
      | true => exact h
      | false => exact anyB_kit h
theorem isK_ty {K : PySem.W.Frag} {ns : List String} {tb : String → Bool} {to : Str → Option Bool} (h : ∀ t ∈ baseTys, anyB t ns = some (tb t)) (h2 : ∀ c b, to c = some b → False) : IsK K (ns.map .type) tb to :=
  ⟨fun t ht => anyB_kit (h t ht), fun c b e => (h2 c b e).elim⟩
end DL

set_option maxHeartbeats 1000000
/-! several except clauses, each with or without a name -/
namespace DL
open PySem PySem.Spec PyProof.Rows L2

def gone (i : Nat) (D : Ends) : Ends := { nx := fun σ H => D.nx (σ.set i none) H, rt := D.rt, bk := fun σ H => D.bk (σ.set i none) H, ct := fun σ H => D.ct (σ.set i none) H }
def wClauses (K : PySem.W.Frag) (Wout : WX) (D : Ends) : List Hd → WX
  | [] => Wout
  | (c, nm, ts) :: r => fun cls d σ H => ∃ b, PySem.W.exmOne K cls c = some b ∧ (b = true → ∀ a, H a = none → match nm with
      | some i => ts a cls d (gone i D) (σ.set i (some (.ref a))) H
      | none => ts a cls d D σ H) ∧ (b = false → wClauses K Wout D r cls d σ H)
/-- clauses that fit -/
inductive Cls' (X : Cx) : List ExceptHandler → List Hd → Prop
  | nil : Cls' X [] []
  | bare {x : Str} {c : Value} {ts : Addr → Value → Option Addr → TS} {b₀ : Stmt} {suite : List Stmt} {np pos' : Pos} {hds : List ExceptHandler} {l : List Hd} (hc : Names X x c)
      (hsu : ∀ (a : Addr) (oe : Obj) (cls : Value) (d : Option Addr) (pn : List (Addr × Obj)), Zc cls d oe → (∃ vs, oe.data = .fields vs) → PSs (X.suite a ((a, oe) :: pn)) (b₀ :: suite) (ts a cls d)) (r : Cls' X hds l) :
      Cls' X (.ExceptHandler (some (.Name x np)) none (b₀ :: suite) pos' :: hds) ((c, none, ts) :: l)
  | named {x n : Str} {c : Value} {i : Nat} {ts : Addr → Value → Option Addr → TS} {b₀ : Stmt} {suite : List Stmt} {np pos' : Pos} {hds : List ExceptHandler} {l : List Hd} (hc : Names X x c) (hi : X.N[i]? = some n) (hln : X.env.kindOf n = some .local)
      (hsu : ∀ (a : Addr) (oe : Obj) (cls : Value) (d : Option Addr) (pn : List (Addr × Obj)), Zc cls d oe → (∃ vs, oe.data = .fields vs) → PSs (X.suite a ((a, oe) :: pn)) (b₀ :: suite) (ts a cls d)) (r : Cls' X hds l) :
      Cls' X (.ExceptHandler (some (.Name x np)) (some n) (b₀ :: suite) pos' :: hds) ((c, some i, ts) :: l)
section
variable {X : Cx} {body : List Stmt} {h₀ : ExceptHandler} {hds : List ExceptHandler} {l : List Hd} {pos : Pos} {tb : WX → TS} {Wout : WX}
theorem ps_tryC (hN : X.N.Nodup) (hs : X.stack = X.env :: X.outer) (hf : X.env.frame = some X.env.locals) (tk : Takes X Wout)
    (hb : ∀ (W : WX) (pn : List (Addr × Obj)) (xe : Value → Shared → Prop), Takes (X.tr pn xe) W → PassesOwn (model X.prog X.w) X.A X.env xe → PSs (X.tr pn xe) body (tb W))
    (hh : Cls' X (h₀ :: hds) l) : PS X (.Try body (h₀ :: hds) [] [] pos) (fun D σ H => tb (wClauses X.K Wout D l) D σ H) := by
  refine ⟨fun pins s σ H D I h => ?_⟩
  have ok := I.ok
  have hfr : X.A.frames = some (X.env :: X.outer) := by rw [ok.frames, hs]
  refine wpAny_Try_except ?_
  refine wpAny_mono ((hb (wClauses X.K Wout D l) (X.pn ++ pins) (fun e s₁ => wpAny (model X.prog X.w) X.A (noteFrame e X.env) (fun _ s₂ => wpAny (model X.prog X.w) X.A (setFlight e none) (fun _ s₃ => wpAny (model X.prog X.w) X.A (handleBy e X.env (h₀ :: hds)) (SP X pins D) X.xe s₃) X.xe s₂) X.xe s₁) (fun u s' xx => ?_) PassesOwn.looking).run [] s σ H D (I.toTry _) h) (fun f s1 hsp => ?_) (fun e s1 he => he)
  · obtain ⟨a, B, sI, pins', σ', H', cls, d, rfl, J', nb, up, sky, na, os, ag, w⟩ := xx
    have J : L2.Inv X pins σ' H' sI := J'.ofTry ok
    have sky' : Sky B (X.env :: X.outer) a (Zc cls d) X.env.locals s'.heap := by rw [← hs]; exact sky
    show wpAny (model X.prog X.w) X.A (noteFrame (.ref a) X.env) _ _ _
    refine Sky.land Zc.steady hfr hf sky' fun h3 fl3 up3 => ?_
    have J3 : L2.Inv X pins σ' H' { s' with heap := h3 } := J.landed nb fl3.1 (up.trans up3) os ag
    obtain ⟨oe3, vs3, he3, hz3, hd3⟩ := fl3.there
    have nfr : a ∉ frs (X.env :: X.outer) := fun hm => by
      obtain ⟨_, o', e', hnf⟩ := fl3.2.2.1.mem hm
      rw [he3] at e'; cases e'
      exact hnf _ hd3
    have nL : a ≠ X.env.locals := fun z => nfr (List.mem_filterMap.mpr ⟨X.env, List.mem_cons_self, by rw [hf, z]⟩)
    have nF : a ∉ X.fs := fun hm => by
      obtain ⟨e, he, q⟩ := List.mem_filterMap.mp hm
      exact nfr (List.mem_filterMap.mpr ⟨e, List.mem_cons_of_mem _ he, q⟩)
    have S3 := J3.suite he3 hd3 na nL nF
    have LT : PySem.W.Looks (model X.prog X.w) h3 (typeOf (.ref a)) cls := fun A Q E s k q => wpAny_typeOf_ref (k _ _ he3) (by rw [hz3.1]; exact q)
    have names : ∀ {x : Str} {c : Value} {np : Pos} {Q : Value → Shared → Prop} {E : Value → Shared → Prop}, Names X x c → Q c { s' with heap := h3 } → wpAny (model X.prog X.w) (X.A.mark (some (.ref a))) (eval (.Name x np) X.env) Q E { s' with heap := h3 } := fun {x c np Q E} hc q => by
      obtain ⟨hg, hdbg, hm | ⟨hm, hv, hnn⟩⟩ := hc
      · exact ld_glob (X := X.suite a ((a, oe3) :: (X.pn ++ pins))) S3 hg hm q hdbg
      · exact ld_blt (X := X.suite a ((a, oe3) :: (X.pn ++ pins))) S3 hg hm hv q hnn hdbg
    have go : ∀ {hds' : List ExceptHandler} {l' : List Hd}, Cls' X hds' l' → wClauses X.K Wout D l' cls d σ' H' → wpAny (model X.prog X.w) X.A (handleBy (.ref a) X.env hds') (SP X pins D) X.xe { s' with heap := h3 } := by
      intro hds' l' hk
      induction hk with
      | nil =>
        intro w
        refine wpAny_handleBy_nil ?_
        obtain ⟨k1, k2, k3, oe, vs, T, oT, ts', he, hz, hd, h1, hr⟩ := id fl3
        unfold PySem.passOn
        refine wpAny_bind (wpAny_field he hd h1 ?_)
        rw [if_neg (show ¬ ((Value.ref T == Value.none) = true) from by simp)]
        have fin : wpAny (model X.prog X.w) X.A (setFlight (.ref a) X.env.frame) (fun _ s4 => wpAny (model X.prog X.w) X.A (throw (.ref a) : Sem Flow) (SP X pins D) X.xe s4) X.xe { s' with heap := h3 } := by
          rw [hf]
          exact HandSPX.setFlight_upZ fl3 fun h4 hh4 up4 => wpAny_throw (tk _ _ ⟨a, B, sI, pins, σ', H', cls, d, rfl, J, nb, (up.trans up3).trans up4, .inr (.inr (by rw [hs]; exact hh4)), na, os, ag, w⟩)
        first
          | exact wpAny_bind (wpAny_pure (wpAny_bind fin))
          | exact wpAny_bind fin
      | @bare x c ts b₀ suite np pos' hds2 l2 hc hsu r ih =>
        intro w
        obtain ⟨b, hb1, hyes, hno⟩ := w
        refine wpAny_handleBy_cons (codeAny_handlers_test (names hc ((PySem.W.exm_one (M := model X.prog X.w) (J3.kIn) LT hb1).here ?_))) (by intro q; cases q)
        cases b with
        | false => exact ih (hno rfl)
        | true =>
          refine codeAny_handlers_suite (HandSPX.lands_againZ fl3 fun h4 fl4 up4 => ?_)
          have J4 : L2.Inv X pins σ' H' { s' with heap := h4 } := J.landed nb fl4.1 ((up.trans up3).trans up4) os ag
          obtain ⟨oe4, vs4, he4, hz4, hd4⟩ := fl4.there
          have S4 := J4.suite he4 hd4 na nL nF
          refine wpAny_mono ((hsu a oe4 cls d (X.pn ++ pins) hz4 ⟨_, hd4⟩).run [] _ _ H' _ S4 (hyes rfl a na)) (fun f s6 hsp => ?_) (fun _ _ z => False.elim z)
          cases f with
          | ret u =>
            obtain ⟨v6, σ6, H6, S6, r6, q6⟩ := hsp
            exact ⟨_, _, _, S6.unsuite ok, r6, q6⟩
          | next => obtain ⟨σ6, H6, S6, q6⟩ := hsp; exact ⟨_, _, S6.unsuite ok, q6⟩
          | brk => obtain ⟨σ6, H6, S6, q6⟩ := hsp; exact ⟨_, _, S6.unsuite ok, q6⟩
          | cont => obtain ⟨σ6, H6, S6, q6⟩ := hsp; exact ⟨_, _, S6.unsuite ok, q6⟩
      | @named x n c i ts b₀ suite np pos' hds2 l2 hc hi hln hsu r ih =>
        intro w
        obtain ⟨b, hb1, hyes, hno⟩ := w
        refine wpAny_handleBy_cons (codeAny_handlers_test (names hc ((PySem.W.exm_one (M := model X.prog X.w) (J3.kIn) LT hb1).here ?_))) (by intro q; cases q)
        cases b with
        | false => exact ih (hno rfl)
        | true =>
          refine codeAny_handlers_suite_as (HandSPX.lands_againZ fl3 fun h4 fl4 up4 => ?_)
          have J4 : L2.Inv X pins σ' H' { s' with heap := h4 } := J.landed nb fl4.1 ((up.trans up3).trans up4) os ag
          obtain ⟨oe4, vs4, he4, hz4, hd4⟩ := fl4.there
          have S4 := J4.suite he4 hd4 na nL nF
          refine store_ok (X := X.suite a ((a, oe4) :: (X.pn ++ pins))) (v := .ref a) S4 hN hi (.inl hln) rfl (fun s5 S5 => ?_) (.inr hln)
          refine wpAny_mono ((hsu a oe4 cls d (X.pn ++ pins) hz4 ⟨_, hd4⟩).run [] s5 _ H' _ S5 (hyes rfl a na)) (fun f s6 hsp => ?_) (fun _ _ z => False.elim z)
          cases f with
          | ret u =>
            obtain ⟨v6, σ6, H6, S6, r6, q6⟩ := hsp
            exact gone_ok (S6.unsuite ok) hN hi hln fun s7 J7 => ⟨_, _, _, J7, r6, q6⟩
          | next => obtain ⟨σ6, H6, S6, q6⟩ := hsp; exact gone_ok (S6.unsuite ok) hN hi hln fun s7 J7 => ⟨_, _, J7, q6⟩
          | brk => obtain ⟨σ6, H6, S6, q6⟩ := hsp; exact gone_ok (S6.unsuite ok) hN hi hln fun s7 J7 => ⟨_, _, J7, q6⟩
          | cont => obtain ⟨σ6, H6, S6, q6⟩ := hsp; exact gone_ok (S6.unsuite ok) hN hi hln fun s7 J7 => ⟨_, _, J7, q6⟩
    exact go hh w
  · cases f with
    | ret u =>
      obtain ⟨v, σ', H', J', r, q⟩ := hsp
      exact ⟨v, σ', H', J'.ofTry ok, r, q⟩
    | next => obtain ⟨σ', H', J', q⟩ := hsp; exact wpAny_execs_nil ⟨σ', H', J'.ofTry ok, q⟩
    | brk => obtain ⟨σ', H', J', q⟩ := hsp; exact ⟨σ', H', J'.ofTry ok, q⟩
    | cont => obtain ⟨σ', H', J', q⟩ := hsp; exact ⟨σ', H', J'.ofTry ok, q⟩
end
end DL

set_option maxHeartbeats 1000000
/-! raise, try on plain data -/
namespace DL
open PySem PySem.Spec PyProof.Rows L2

/-! ### an except suite is entered, left -/
section
variable {K : PySem.W.Frag} {ent : Ent none} {O : List Nat} {w : Wit} {H : Hp} {σ : L2.St} {ρ : DEnv} {S : Sto}
end
def Wx (i : Nat) (a : Addr) (cls : Value) (dx : Option Addr) (x : D) : WZ := ⟨fun _ _ _ _ => False, some ⟨i, a, cls, dx, x, none, []⟩, .e⟩
def W0 : WZ := ⟨fun _ _ _ _ => False, none, .e⟩
/-- the reading of a suite -/
def tSuN (K : PySem.W.Frag) (L : Lp) (O' : List Nat) (i : Nat) (g : D → SF) : Addr → Value → Option Addr → TS := fun a cls dx D σ H => ∃ x, rdS K L (Wx i a cls dx x) [i] O' (g x) D σ H
def tSuB (K : PySem.W.Frag) (L : Lp) (O' : List Nat) (g : D → SF) : Addr → Value → Option Addr → TS := fun a cls dx D σ H => ∃ x, rdS K L W0 [] O' (g x) D σ H
/-- clauses that fit, on plain data -/
inductive HdsD (X : Cx) (L : Lp) (O' : List Nat) : List ExceptHandler → List Hd → List HdF → Prop
  | nil : HdsD X L O' [] [] []
  | bare {x : Str} {c : Value} {b₀ : Stmt} {suite : List Stmt} {np pos' : Pos} {hds : List ExceptHandler} {l : List Hd} {fs : List HdF} {to : Str → Option Bool} {g : D → SF} (hc : Names X x c) (ht : ∀ d b, to d = some b → PySem.W.exmOne X.K (.ref (He.ga X.K d)) c = some b)
      (hsu : ∀ (a : Addr) (oe : Obj) (cls : Value) (d : Option Addr) (pn : List (Addr × Obj)) (x : D), Zc cls d oe → (∃ vs, oe.data = .fields vs) → DSs (X.suite a ((a, oe) :: pn)) W0 L [] (b₀ :: suite) O' (g x)) (r : HdsD X L O' hds l fs) :
      HdsD X L O' (.ExceptHandler (some (.Name x np)) none (b₀ :: suite) pos' :: hds) ((c, none, tSuB X.K L O' g) :: l) (⟨to, none, g⟩ :: fs)
  | named {x n : Str} {c : Value} {i : Nat} {b₀ : Stmt} {suite : List Stmt} {np pos' : Pos} {hds : List ExceptHandler} {l : List Hd} {fs : List HdF} {to : Str → Option Bool} {g : D → SF} (hc : Names X x c) (hi : X.N[i]? = some n) (hln : X.env.kindOf n = some .local) (hiO : i ∉ O' ∧ i ∉ L.ct ∧ i ∉ L.bk)
      (ht : ∀ d b, to d = some b → PySem.W.exmOne X.K (.ref (He.ga X.K d)) c = some b)
      (hsu : ∀ (a : Addr) (oe : Obj) (cls : Value) (d : Option Addr) (pn : List (Addr × Obj)) (x : D), Zc cls d oe → (∃ vs, oe.data = .fields vs) → DSs (X.suite a ((a, oe) :: pn)) (Wx i a cls d x) L [i] (b₀ :: suite) O' (g x)) (r : HdsD X L O' hds l fs) :
      HdsD X L O' (.ExceptHandler (some (.Name x np)) (some n) (b₀ :: suite) pos' :: hds) ((c, some i, tSuN X.K L O' i g) :: l) (⟨to, some i, g⟩ :: fs)
theorem HdsD.cls {X : Cx} {L : Lp} {O' : List Nat} {hs : List ExceptHandler} {l : List Hd} {fs : List HdF} (h : HdsD X L O' hs l fs) : Cls' X hs l := by
  induction h with
  | nil => exact .nil
  | bare hc ht hsu r ih => exact .bare hc (fun a oe cls d pn hz hf => PSs.ex fun x => (hsu a oe cls d pn x hz hf).ps) ih
  | named hc hi hln hiO ht hsu r ih => exact .named hc hi hln (fun a oe cls d pn hz hf => PSs.ex fun x => (hsu a oe cls d pn x hz hf).ps) ih
theorem HdsD.wish {X : Cx} {L : Lp} {wx : WX} {xc : Option XC} {O' : List Nat} {hs : List ExceptHandler} {l : List Hd} {fs : List HdF} (h : HdsD X L O' hs l fs) {ent : Ent none} {En : Ends} {x : D} {ρ : DEnv} {S : Sto} (p : SPost X.K ent L ⟨wx, xc, .e⟩ O' (handD fs x ρ S) En)
    {w : Wit} {H : Hp} {σ : L2.St} {cls : Value} {dx : Option Addr} (r : R X.K ent [] w H σ ρ S) (hx : RepX X.K w H x cls dx) : wClauses X.K wx En l cls dx σ H := by
  induction h with
  | nil => exact p w H σ cls dx r hx
  | @bare x' c b₀ suite np pos' hds l fs to g hc ht hsu rr ih =>
    obtain ⟨cn, fls, ex, ec, _⟩ := id hx
    subst ex ec
    unfold handD at p
    dsimp only at p
    cases e : to cn with
    | none => rw [e] at p; exact p.elim
    | some b =>
      rw [e] at p
      refine ⟨b, ht cn b e, fun hb a na => ?_, fun hb => ?_⟩
      · subst hb
        dsimp only at p
        refine ⟨.ins cn fls, (⟨ent.w, ent.H, ent.k⟩ : Ent none), w, ρ, S, r, ?_⟩
        cases e2 : g (.ins cn fls) ρ S with
        | nx ρ1 S1 => rw [e2] at p; exact fun w1 H1 σ1 r1 => p w1 H1 σ1 (r1.leave rfl rfl rfl)
        | rt d S1 => rw [e2] at p; exact p
        | bk ρ1 S1 => rw [e2] at p; exact fun w1 H1 σ1 r1 => p w1 H1 σ1 (r1.leave rfl rfl rfl)
        | ct ρ1 S1 => rw [e2] at p; exact fun w1 H1 σ1 r1 => p w1 H1 σ1 (r1.leave rfl rfl rfl)
        | exn y ρ1 S1 => rw [e2] at p; exact p.elim
        | stuck => rw [e2] at p; exact p
      · subst hb
        exact ih p
  | @named x' n c i b₀ suite np pos' hds l fs to g hc hi hln hiO ht hsu rr ih =>
    obtain ⟨cn, fls, ex, ec, _⟩ := id hx
    subst ex ec
    unfold handD at p
    dsimp only at p
    cases e : to cn with
    | none => rw [e] at p; exact p.elim
    | some b =>
      rw [e] at p
      refine ⟨b, ht cn b e, fun hb a na => ?_, fun hb => ?_⟩
      · subst hb
        dsimp only at p
        refine ⟨.ins cn fls, (⟨ent.w, ent.H, ent.k⟩ : Ent (some ⟨i, a, _, dx, .ins cn fls, none, []⟩)), w, ρ.set i none, S, r.enter hx, ?_⟩
        cases e2 : g (.ins cn fls) (ρ.set i none) S with
        | nx ρ1 S1 => rw [e2] at p; exact fun w1 H1 σ1 r1 => p w1 H1 _ (R.wipe1 (r1.leave (ent := ent) rfl rfl rfl) i hiO.1)
        | rt d S1 => rw [e2] at p; exact p
        | bk ρ1 S1 => rw [e2] at p; exact fun w1 H1 σ1 r1 => p w1 H1 _ (R.wipe1 (r1.leave (ent := ent) rfl rfl rfl) i hiO.2.2)
        | ct ρ1 S1 => rw [e2] at p; exact fun w1 H1 σ1 r1 => p w1 H1 _ (R.wipe1 (r1.leave (ent := ent) rfl rfl rfl) i hiO.2.1)
        | exn y ρ1 S1 => rw [e2] at p; exact p.elim
        | stuck => rw [e2] at p; exact p
      · subst hb
        exact ih p
/-! ### the caught exception's fields -/
theorem RepF.look {K : PySem.W.Frag} {w : Wit} {f : Str} : ∀ {fs : List (Str × D)} {vs : List (Str × V)} {d : D}, RepF K w fs vs → fs.lookup f = some d → ∃ v, vs.lookup f = some v ∧ Rep K w d v
  | _, _, d, .nil, h => by cases h
  | _, _, d, @RepF.cons _ _ k d' v ds vs h t, e => by
    simp only [List.lookup] at e ⊢
    cases q : f == k with
    | true => rw [q] at e; cases e; exact ⟨v, rfl, h⟩
    | false => rw [q] at e; exact RepF.look t e
theorem de_xf {X : Cx} {O : List Nat} {a : Addr} {oe : Obj} {cls : Value} {d : Option Addr} {pn : List (Addr × Obj)} {n f : Str} {i : Nat} {x : D} {p pos : Pos} (cs : List Str) (hT : ∀ c ∈ cs, XfC X.K (He.ga X.K c) ∧ PySem.W.findIn X.K (.ref (He.ga X.K c)) f = some none)
    (hz : Zc cls d oe) (hf : ∃ vs, oe.data = .fields vs) (hi : i ∈ O := by decide) (hN : (X.suite a ((a, oe) :: pn)).N[i]? = some n := by rfl) (hv : Vis (X.suite a ((a, oe) :: pn)).env.scope n := by first | exact Or.inl rfl | exact Or.inr (Or.inl rfl) | exact Or.inr (Or.inr rfl)) (hd : (n == ("__debug__" : Str)) = false := by decide) (hcd : (n == ("__classdict__" : Str)) = false := by decide)
    (hb : attributeBase (.Name n p) f X.env (eval (.Name n p) X.env) = eval (.Name n p) X.env := by rfl) : DE .e (X.suite a ((a, oe) :: pn)) (Wx i a cls d x) O (.Attribute (.Name n p) f pos) (eXf i cs f x) := by
  refine ⟨(PE.ex (p := fun c => c ∈ cs) fun c hc => pe_xf (d := d) (cls := cls) (C := He.ga X.K c) (te := tVar i) (hT c hc).1 (hT c hc).2 hz hf (pe_var hN hv hd hcd) hb).imp ?_⟩
  rintro σ H Q ⟨ent, w, ρ, S, r, p⟩
  unfold eXf at p
  cases e0 : ρ[i]? with
  | none => rw [e0] at p; exact p.elim
  | some o => cases o with
    | some _ => rw [e0] at p; exact p.elim
    | none =>
      rw [e0] at p
      dsimp only at p
      obtain ⟨s1, c, fs, ex, ec, h⟩ := r.exc ⟨i, a, cls, d, x, none, []⟩ rfl hi e0
      have ex : x = .ins c fs := ex
      subst ex
      dsimp only at p
      split at p
      · rename_i hc
        refine ⟨c, hc, .ref a, s1, rfl, ec, ?_⟩
        rcases h with ⟨_, rfl⟩ | ⟨dd, vs, ed, hH, rf, _⟩
        · exact p.elim
        · cases e1 : fs.lookup f with
          | none => rw [e1] at p; exact p.elim
          | some dv =>
            rw [e1] at p
            obtain ⟨v, l, rv⟩ := rf.look e1
            exact ⟨dd, vs, v, ed, hH, l, p v H w (.refl _ _) r.gd rv⟩
      · exact p.elim
end DL

set_option maxHeartbeats 1000000
/-! raise of own exceptions with fields; dicts of the module; the hook with further facts -/
namespace DL
open PySem PySem.Spec PyProof.Rows L2

/-! ### an own exception class whose __init__ stores its arguments -/
theorem oexB_ok {K : PySem.W.Frag} {C : Addr} (h : oexB K C = true) : OexC K C := by
  unfold oexB at h
  obtain ⟨h1, h⟩ := Bool.and_eq_true_iff.mp h
  obtain ⟨h2, h⟩ := Bool.and_eq_true_iff.mp h
  obtain ⟨h3, h⟩ := Bool.and_eq_true_iff.mp h
  obtain ⟨h4, h5⟩ := Bool.and_eq_true_iff.mp h
  refine ⟨?_, of_decide_eq_true h2, of_decide_eq_true h3, of_decide_eq_true h4, h5⟩
  cases e : K.lookup C with
  | none => rw [e] at h1; cases h1
  | some o =>
    rw [e] at h1
    obtain ⟨oc, od, dt, sl⟩ := o
    cases oc with
    | type t =>
      cases dt with
      | cls cd =>
        dsimp only at h1
        obtain ⟨g1, h1⟩ := Bool.and_eq_true_iff.mp h1
        obtain ⟨g2, h1⟩ := Bool.and_eq_true_iff.mp h1
        obtain ⟨g3, h1⟩ := Bool.and_eq_true_iff.mp h1
        obtain ⟨g4, g5⟩ := Bool.and_eq_true_iff.mp h1
        have e1 : t = "type" := of_decide_eq_true g1
        subst e1
        obtain ⟨nm, bs, mro, ns, qn, hd, sn, sb, ab, col, del⟩ := cd
        dsimp only at g2 g3 g4
        subst g2
        have e3 : del = false := by cases del <;> simp_all
        subst e3
        match mro, g4 with
        | .ref c :: bm, g4 =>
          obtain ⟨k1, k2⟩ := Bool.and_eq_true_iff.mp g4
          have ec : c = C := of_decide_eq_true k1
          subst ec
          obtain ⟨sl⟩ := sl
          match sl, g5 with
          | [a0, a1, a2, a3, a4, a5], g5 =>
            have e4 : a4 = some (.builtin "ValueError.__new__") := of_decide_eq_true g5
            subst e4
            exact ⟨nm, qn, ns, bs, bm, sn, sb, ab, col, od, a0, a1, a2, a3, a5, rfl, k2⟩
      | _ => cases h1
    | _ => cases dt <;> cases h1
/-- where an exception stands in the making: its dict at d with fs -/
def mkX (H : Hp) (a d C : Addr) (fs : List (Str × V)) : Hp := fun b => if b = a then some (exo a C (some d)) else if b = d then some (exd d fs) else H b
/-- C.__init__(self, x1, .., xn) stores the fields fs -/
def spI (K : PySem.W.Frag) (fs : List Str) : Sp := fun vs H Q _ => ∃ a xs C, vs = .ref a :: xs ∧ xs.length = fs.length ∧ OexC K C ∧ (∀ f ∈ fs, PySem.W.findIn K (.ref C) f = some none) ∧ H a = some (exo a C none) ∧ ∀ d, H d = none → d ≠ a → Q .non (mkX H a d C (fs.zip xs).reverse)
theorem mkX_one {H : Hp} {a d C : Addr} {f : Str} {y : V} : upd (upd H d (exd d [(f, y)])) a (exo a C (some d)) = mkX H a d C [(f, y)] := by
  funext b
  simp only [upd, mkX]
section
variable {X : Cx} {K : PySem.W.Frag}
theorem mkX_a {H : Hp} {a d C : Addr} {fs : List (Str × V)} : mkX H a d C fs a = some (exo a C (some d)) := by simp [mkX]
theorem mkX_d {H : Hp} {a d C : Addr} {fs : List (Str × V)} (h : d ≠ a) : mkX H a d C fs d = some (exd d fs) := by simp [mkX, h]
/-- the walk of an __init__ with one, two, three fields -/
theorem init1 {f : Str} {N : List Str} {vs : List V} {H : Hp} {Q : VK} {E : XK} {Dn : L2.St → Hp → Prop} (hN : 2 ≤ N.length) (h : spI K [f] vs H Q E) (hD : ∀ σ H', Q .non H' → Dn σ H') : tOst K f (tVar 0) (tVar 1) { nx := Dn, rt := Q } (L2.start N vs) H := by
  obtain ⟨a, xs, C, rfl, hl, T, hno, ha, q⟩ := h
  match xs, hl, q with
  | [y], _, q =>
    exact ⟨y, by simp [L2.start], .ref a, by simp [L2.start], a, C, rfl, T, hno f (by simp), .inl ⟨ha, fun d nd ne => by rw [mkX_one]; exact hD _ _ (q d nd ne)⟩⟩
end
/-- the class x can be raised with the fields fs -/
structure Xok (P : Program) (w : World) (K : PySem.W.Frag) (mg : Str → Option Value) (base : Heap) (x : Str) (fs : List Str) : Prop where
  ex : ∃ fI fd, OexC K (He.ga K x) ∧ PySem.W.findIn K (.ref (He.ga K x)) "__init__" = some (some (.ref fI)) ∧ PySem.W.typeIn K (.ref fI) = some (.type "function") ∧ FnOk P w K mg base CX0 1 fI fd ("self" :: fs) (spI K fs) ∧ Binds K fd ("self" :: fs) []
  no : ∀ f ∈ fs, PySem.W.findIn K (.ref (He.ga K x)) f = some none
  mg_ : mg x = some (.ref (He.ga K x))
theorem repF_rev {K : PySem.W.Frag} {w : Wit} {fs : List Str} {ds : List D} {vs : List V} (h : Reps K w ds vs) : RepF K w (fs.zip ds).reverse (fs.zip vs).reverse := by
  have app : ∀ {a : List (Str × D)} {b : List (Str × V)} {a' : List (Str × D)} {b' : List (Str × V)}, RepF K w a b → RepF K w a' b' → RepF K w (a ++ a') (b ++ b') := by
    intro a b a' b' h h'
    induction a generalizing b with
    | nil => cases h; exact h'
    | cons p a ih => cases h with | cons h t => exact .cons h (ih t)
  induction ds generalizing vs fs with
  | nil => cases h; cases fs <;> exact .nil
  | cons d ds ih =>
    cases h with
    | cons h t =>
      cases fs with
      | nil => exact .nil
      | cons f fs =>
        simp only [List.zip_cons_cons, List.reverse_cons]
        exact app (ih t) (.cons h .nil)
section
variable {X : Cx} {W : WZ} {L : Lp} {O O' : List Nat} {e : Expr} {es : List Expr} {fa : AF} {x : Str} {fs : List Str} {p pos pos' : Pos}
theorem ds_raise (h : Xok X.prog X.w X.K X.mg X.base x fs) (hr : Room 2 X.A) (tk : Takes X W.wx) (ha : DA X W O (e :: es) fa) (hlen : ∀ ρ S ds S1, fa ρ S = .ok ds S1 → ds.length = fs.length) (hfl : fs.length ≤ 900 := by decide) (hf0 : fs ≠ [] := by simp) (hc : X.calm = true := by rfl) (hg : Gl X x := by rfl)
    (hdb : (x == ("__debug__" : Str)) = false := by decide) (he : starEach (e :: es) X.env = (false, eval e X.env) :: starEach es X.env := by rfl) (hpl : (backTo pos (starEach es X.env)).any (·.1) = false := by rfl) :
    DS X W L O (.Raise (some (.Call (.Name x p) (e :: es) [] pos)) none pos') O' (sRaise x fs fa) := by
  obtain ⟨fI, fd, T, iC, tI, F1, hb⟩ := h.ex
  refine ⟨(ps_raise hc tk (pmk_oex (dvs := []) T iC tI F1 hr hb .nil pass0 hg h.mg_ ha.pa hdb he hpl)).imp ?_⟩
  rintro En σ H ⟨ent, w, ρ, S, r, p⟩
  refine ⟨ent, w, ρ, S, r, ?_⟩
  unfold sRaise at p
  cases e1 : fa ρ S with
  | stuck => rw [e1] at p; exact p
  | exn y S1 => rw [e1] at p; exact exn_of r p
  | ok ds S1 =>
    rw [e1] at p
    intro vs H1 w1 x1 g1 z
    have z : Reps X.K w1 ds vs := z
    have hl : vs.length = fs.length := by rw [← z.length]; exact hlen _ _ _ _ e1
    refine ⟨by omega, fun a na => ⟨a, vs, He.ga X.K x, by rw [List.append_nil], hl, T, h.no, upd_same, fun d nd ne => ⟨rfl, d, _, mkX_a, mkX_d ne, ?_, ?_⟩⟩⟩
    · rw [upd_ne ne] at nd; exact nd
    · have nd1 : H1 d = none := by rw [upd_ne ne] at nd; exact nd
      have eH : upd (del (mkX (upd H1 a (exo a (He.ga X.K x) none)) a d (He.ga X.K x) (fs.zip vs).reverse) a) d (.xd (fs.zip vs).reverse) = upd H1 d (.xd (fs.zip vs).reverse) := by
        funext b
        simp only [upd, del, mkX]
        by_cases q : b = d
        · simp [q]
        · by_cases q2 : b = a
          · subst q2; simp [q, na]
          · simp [q, q2]
      rw [eH]
      have x2 : Ext w1 H1 w1 (upd H1 d (.xd (fs.zip vs).reverse)) := Ext.newO w1 nd1
      obtain ⟨w3, l3, r3⟩ := ((r.later x1 g1).later x2 (g1.newO nd1)).weak [] (by simp)
      have hld : ds.length = fs.length := hlen _ _ _ _ e1
      have hne : (fs.zip ds).reverse ≠ [] := fun hr0 => by
        rw [List.reverse_eq_nil_iff] at hr0
        have := congrArg List.length hr0
        rw [List.length_zip, hld, Nat.min_self] at this
        exact hf0 (List.length_eq_zero_iff.mp this)
      exact p w3 _ σ _ _ r3 ⟨x, _, rfl, rfl, .inr ⟨d, _, rfl, upd_same, (repF_rev z).mono l3, hne⟩⟩
end
end DL

set_option maxHeartbeats 1000000
/-! dicts of the module with text keys -/
namespace DL
open PySem PySem.Spec PyProof.Rows L2

def dvD : He.Dv → Option D
  | .non => some .non
  | .bl b => some (.bl b)
  | .int i => some (.int i)
  | .str x => some (.str x)
  | _ => none
theorem dvD_rep {K : PySem.W.Frag} {w : Wit} {dv : He.Dv} {d : D} (h : dvD dv = some d) : Rep K w d (dv.v K) := by
  cases dv <;> simp [dvD] at h <;> subst h
  · exact .non
  · exact .bl _
  · exact .int _
  · exact .str _
def kIn (tab : List (Str × He.Dv)) (x : D) : Option D := match x with
  | .str z => some (.bl (tab.lookup z).isSome)
  | _ => none
section
variable {X : Cx} {W : WZ} {O : List Nat} {a : Expr} {fa : EF} {k : Kd} {x : Str} {tab : List (Str × He.Dv)} {p pos : Pos}
end
end DL

set_option maxHeartbeats 1000000
/-! displayed dicts; the hook with further facts -/
namespace DL
open PySem PySem.Spec PyProof.Rows L2

def putP (kvs : List (D × D)) (k v : D) : Option (List (D × D)) := (kOf k).map fun kk => putKD kvs (fun x => decide (kOf x = some kk)) k v
def evP : List (EF × EF) → DEnv → Sto → List (D × D) → Res
  | [], _, S, acc => .ok (.dct acc) S
  | (fk, fv) :: r, ρ, S, acc => (fk ρ S).bind fun k S1 => (fv ρ S1).bind fun v S2 => match putP acc k v with
    | some acc' => evP r ρ S2 acc'
    | none => .stuck
def eDisp (fs : List (EF × EF)) : EF := fun ρ S => evP fs ρ S []
structure DPs (X : Cx) (W : WZ) (O : List Nat) (pos : Pos) (keys : List (Option Expr)) (values : List Expr) (fs : List (EF × EF)) : Prop where
  pp : PPs X pos keys values (fs.map fun p => (rd X.K .e W O p.1, rd X.K .e W O p.2))
section
variable {X : Cx} {W : WZ} {O : List Nat} {k v : Expr} {ks : List (Option Expr)} {vs : List Expr} {fk fv : EF} {fs : List (EF × EF)} {pos : Pos}
theorem dps_nil : DPs X W O pos [] [] [] := ⟨pps_nil⟩
theorem dps_cons (hk : DE .e X W O k fk) (hv : DE .e X W O v fv) (hr : DPs X W O pos ks vs fs) : DPs X W O pos (some k :: ks) (v :: vs) ((fk, fv) :: fs) := ⟨pps_cons hk.pe hv.pe hr.pp⟩
theorem disp_of {K : PySem.W.Frag} {σ : L2.St} {ent : Ent W.xc} {ρ : DEnv} {p : Addr} : ∀ {fs : List (EF × EF)} {w : Wit} {H : Hp} {S : Sto} {acc : List (D × D)} {Q : VK} {n : Nat} {pre : List (L2.Key × V)}, fs.length + n ≤ 15 → pre.length = n → R K ent O w H σ ρ S → Own K w H (.dct []) p → RepK K w acc (mergeK [] pre) →
    Post K .e w H W σ (evP fs ρ S acc) (fun _ _ => True) → (∀ d S2 kvs H2 w2, evP fs ρ S acc = .ok (.dct d) S2 → Ext w H w2 H2 → Gd K w2 H2 S2 → Own K w2 H2 (.dct []) p → RepK K w2 d (mergeK [] kvs) → Q (.ref p) (upd H2 p (.dK (mergeK [] kvs)))) →
    (∀ x S2, evP fs ρ S acc = .exn x S2 → ∀ cls dx H' w', Ext w H w' H' → Gd K w' H' S2 → RepX K w' H' x cls dx → W.wx cls dx σ H') →
    tPairs (fs.map fun p => (rd K .e W O p.1, rd K .e W O p.2)) σ H fun ps H2 => H2 p = some (.dK []) ∧ ∃ kvs : List (L2.Key × V), pre.map (fun kv => (kV kv.1, kv.2)) ++ ps = kvs.map (fun kv => (kV kv.1, kv.2)) ∧ kvs.length ≤ 15 ∧ Q (.ref p) (upd H2 p (.dK (mergeK [] kvs))) := by
  intro fs
  induction fs with
  | nil =>
    intro w H S acc Q n pre hn hp r o ra _ q _
    obtain ⟨_, _, vs, hH, rv⟩ := id o
    cases rv
    refine ⟨hH, pre, by simp, by simp at hn; omega, q _ _ _ _ _ rfl (.refl _ _) r.gd o ra⟩
  | cons f fs ih =>
    obtain ⟨fk, fv⟩ := f
    intro w H S acc Q n pre hn hp r o ra ps q qx
    show rd K .e W O fk σ H fun x H1 => rd K .e W O fv σ H1 fun y H2 => _
    refine ⟨ent, w, ρ, S, r, ?_⟩
    unfold evP at ps q qx
    cases e1 : fk ρ S with
    | stuck => rw [e1] at ps; exact ps.elim
    | exn x S1 => exact qx x S1 (by rw [e1]; rfl)
    | ok dk S1 =>
      rw [e1] at ps q qx
      simp only [Res.bind_ok] at ps q qx
      intro vk H1 w1 x1 g1 z1
      refine ⟨ent, w1, ρ, S1, r.later x1 g1, ?_⟩
      cases e2 : fv ρ S1 with
      | stuck => rw [e2] at ps; exact ps.elim
      | exn x S2 => exact fun cls dx H' w' y g' h => qx x S2 (by rw [e2]; rfl) cls dx H' w' (x1.trans y) g' h
      | ok dv S2 =>
        rw [e2] at ps q qx
        simp only [Res.bind_ok] at ps q qx
        intro vv H2 w2 x2 g2 z2
        cases e3 : putP acc dk dv with
        | none => rw [e3] at ps; exact ps.elim
        | some acc' =>
          rw [e3] at ps q qx
          dsimp only at ps q qx
          unfold putP at e3
          cases ek : kOf dk with
          | none => rw [ek] at e3; cases e3
          | some kk =>
            rw [ek] at e3; cases e3
            have evk : vk = kV kk := kOf_rep z1 ek
            have ra2 : RepK K w2 (putKD acc (fun x => decide (kOf x = some kk)) dk dv) (mergeK [] (pre ++ [(kk, vv)])) := by
              have : mergeK [] (pre ++ [(kk, vv)]) = putK (mergeK [] pre) kk vv := by unfold mergeK; rw [List.foldl_append]; rfl
              rw [this, kD_kOf ek]
              exact RepK.put ((ra.mono x1.le).mono x2.le) z2
            have := ih (Q := Q) (n := n + 1) (pre := pre ++ [(kk, vv)]) (by simp at hn; omega) (by simp [hp]) ((r.later x1 g1).later x2 g2) ((o.ext x1).ext x2) ra2 ((Post.later (x1.trans x2) ps)) (fun d S3 kvs H3 w3 e4 x3 g3 o3 r3 => q d S3 kvs H3 w3 e4 (x1.trans (x2.trans x3)) g3 o3 r3) (fun x S3 e4 cls dx H' w' y g' h => qx x S3 e4 cls dx H' w' (x1.trans (x2.trans y)) g' h)
            rw [evk]
            simpa only [List.map_append, List.map_cons, List.map_nil, List.append_assoc, List.singleton_append, List.cons_append, List.nil_append] using this
theorem de_disp (h : DPs X W O pos ks vs fs) (hall : ks.all (·.isSome) = true := by rfl) (hl : ks.length = vs.length := by rfl) (h0 : ks ≠ [] := by simp) (h15 : fs.length ≤ 15 := by decide) (h15' : ks.length ≤ 15 := by decide) : DE .f X W O (.Dict ks vs pos) (eDisp fs) := by
  refine ⟨(pe_disp h.pp hall hl h0 h15').imp ?_⟩
  rintro σ H Q ⟨ent, w, ρ, S, r, p⟩ a na
  have x0 : Ext w H w (upd H a (.dK [])) := Ext.newO w na
  have r0 := r.later x0 (r.gd.newO (o := .dK []) na)
  have o0 : Own X.K w (upd H a (.dK [])) (.dct []) a := ⟨r.gd.noneF na, r.gd.nophi na, [], upd_same, .nil⟩
  have dct : ∀ (fs : List (EF × EF)) (ρ : DEnv) (S : Sto) (acc : List (D × D)) (d : D) (S2 : Sto), evP fs ρ S acc = .ok d S2 → ∃ kvs, d = .dct kvs := by
    intro fs
    induction fs with
    | nil => intro ρ S acc d S2 e; cases e; exact ⟨_, rfl⟩
    | cons f fs ih =>
      intro ρ S acc d S2 e
      unfold evP at e
      cases e1 : f.1 ρ S with
      | stuck => rw [e1] at e; cases e
      | exn x S1 => rw [e1] at e; cases e
      | ok dk S1 =>
        rw [e1] at e
        simp only [Res.bind_ok] at e
        cases e2 : f.2 ρ S1 with
        | stuck => rw [e2] at e; cases e
        | exn x S1 => rw [e2] at e; cases e
        | ok dv S3 =>
          rw [e2] at e
          simp only [Res.bind_ok] at e
          cases e3 : putP acc dk dv with
          | none => rw [e3] at e; cases e
          | some acc' => rw [e3] at e; exact ih _ _ _ _ _ e
  have fin := disp_of (W := W) (Q := Q) (acc := []) (pre := []) (n := 0) (by simpa using h15) rfl r0 o0 (by unfold mergeK; exact .nil) ?_ ?_ ?_
  · simpa using fin
  · have p' : Post X.K .f w H W σ (evP fs ρ S []) Q := p
    cases e : evP fs ρ S [] with
    | ok d S2 => exact fun _ _ _ _ _ _ => trivial
    | exn x S2 => rw [e] at p'; exact fun cls dx H' w' y g' h => p' cls dx H' w' (x0.trans y) g' h
    | stuck => rw [e] at p'; exact p'
  · intro d S2 kvs H2 w2 e x2 g2 o2 r2
    have p' : Post X.K .f w H W σ (evP fs ρ S []) Q := p
    rw [e] at p'
    exact p' _ _ w2 ((x0.trans x2).updO na) (g2.updO o2.1 o2.2.1 o2.pd) ⟨a, rfl, na, own_dct o2 r2⟩
  · intro x S2 e cls dx H' w' y g' hx
    have p' : Post X.K .f w H W σ (evP fs ρ S []) Q := p
    rw [e] at p'
    exact p' cls dx H' w' (x0.trans y) g' hx
end
/-! ### the hook -/
section
variable {fa : List He.Fa} {fn : List He.DefD} {ts : List He.Tab} {bs : List (PySem.W.Frag → Bool)} {w : World} {K : PySem.W.Frag}
end
end DL

set_option maxHeartbeats 4000000
namespace DL
open PySem PySem.Spec PyProof.Rows L2
/-- the heap without its tables -/
def noT (H : Hp) : Hp := fun a => match H a with
  | some (.tbl _) => none
  | o => o
theorem noT_sub {H : Hp} {a : Addr} {o : HO} (e : noT H a = some o) : H a = some o ∧ ∀ ps, o ≠ .tbl ps := by
  unfold noT at e
  cases h : H a with
  | none => rw [h] at e; cases e
  | some u =>
    rw [h] at e
    cases u with
    | tbl ps => cases e
    | _ => cases e; exact ⟨rfl, fun ps z => by cases z⟩
theorem noT_of {H : Hp} {a : Addr} {o : HO} (e : H a = some o) (h : ∀ ps, o ≠ .tbl ps) : noT H a = some o := by
  unfold noT
  rw [e]
  cases o with
  | tbl ps => exact absurd rfl (h ps)
  | _ => rfl
theorem sqL_noT {K : PySem.W.Frag} {H : Hp} {a : Addr} {vs : List V} (h : SqL K H a vs) : SqL K (noT H) a vs := by
  rcases h with (h | ⟨o, h⟩) | h
  · exact .inl (.inl (noT_of h fun ps z => by cases z))
  · exact .inl (.inr ⟨o, noT_of h fun ps z => by cases z⟩)
  · exact .inr h
/-- a def's promise, its tables told -/
def spT (T : List (Addr × Str)) (K : PySem.W.Frag) (n : Nat) (ff : FF) : Sp := fun vs H Q E => vs.length = n ∧ ∃ w S ds, (T ≠ [] → w.T = T) ∧ Gd K w H S ∧ Reps K w ds vs ∧ PostF K w H (ff ds S) Q E
/-- the script's list, read as data -/
theorem start_spT {T : List (Addr × Str)} {K : PySem.W.Frag} {H : Hp} {a : Addr} {ns : List Int} {f : FF} (hT : LamX.Tabs T H) (hf : ∀ cells : List Int, ∃ S, f [.lst (cells.map D.int)] [] = .ok (.bl true) S) (hS : SqL K H a (ns.map V.int)) :
    spT T K 1 f [.ref a] H (fun v _ => v = .bl true) fun _ _ _ => False := by
  refine ⟨rfl, ⟨noT H, fun _ => 0, 0, T⟩, [], [.lst (ns.map D.int)], fun _ => rfl, ⟨rfl, fun a o e => (noT_sub e).1, fun n o e => by simp at e, fun i j hi => absurd hi (Nat.not_lt_zero _), fun i hi => absurd hi (Nat.not_lt_zero _), hT, fun a ps e => (noT_sub e).2 ps rfl⟩, .cons (.lst (sqL_noT hS) ?_) .nil, ?_⟩
  · clear hS
    induction ns with
    | nil => exact .nil
    | cons n ns ih => exact .cons (.int n) ih
  · obtain ⟨S', e⟩ := hf ns
    rw [e]
    intro v H' w' _ _ r
    cases r
    rfl
theorem noCX {P : Program} (w : World) (H : Hp) (s : Shared) (e : Value) (s' : Shared) (h : L2.CX P w [] H s (fun _ _ _ => False) e s') : False := by
  obtain ⟨_, _, _, _, _, _, _, _, _, _, _, _, z⟩ := h
  exact z
end DL

/-! plain lemmas on the data layer's functions -/
namespace DL
open PySem PySem.Spec PyProof.Rows L2

/-! ### data that may be compared -/
theorem okD_sh {n : Nat} {d : D} (h : okD n d = true) (hn : n ≤ 64) : shD d = true := by
  simp only [okD, shD, SeqAt.shaped, Bool.and_eq_true, decide_eq_true_eq] at h ⊢
  exact ⟨h.1, h.2.1, by omega⟩
theorem okD_lst {n : Nat} {ds : List D} (h : ∀ d ∈ ds, okD n d = true) : okD (n + 1) (.lst ds) = true := by
  simp only [okD, Bool.and_eq_true, decide_eq_true_eq] at h ⊢
  refine ⟨by simp only [plD, plDs_all, List.all_eq_true]; exact fun d hd => (h d hd).1, ?_, ?_⟩
  · simp only [toPy, PyData.canLay0]; exact canLayAll0_of fun d hd => (h d hd).2.1
  · simp only [toPy, PyData.depth]; have := depthAll_of (ds := ds) (n := n) fun d hd => (h d hd).2.2; omega
/-! ### == -/
theorem beq_dec {α : Type} [DecidableEq α] [BEq α] [LawfulBEq α] (a b : α) : (a == b) = decide (a = b) := by by_cases h : a = b <;> simp [h]
theorem eqD_int (a b : Int) : eqD (.int a) (.int b) = decide (a = b) := by simp only [eqD, toPy, PyData.eqv]; exact beq_dec a b
theorem eqD_str (a b : Str) : eqD (.str a) (.str b) = decide (a = b) := by simp only [eqD, toPy, PyData.eqv]; exact beq_dec a b
/-! ### comprehensions, loops -/
/-- a loop whose turns all go on -/
theorem forD_inv {g : GF} {body : SF} (I : Nat → DEnv → Sto → Prop) {xs : List D} : ∀ {ys : List D} {i : Nat} {ρ : DEnv} {S : Sto}, i ≤ xs.length → xs.drop i = ys → I i ρ S → (∀ i x ρ S, xs[i]? = some x → I i ρ S → ∃ ρ1 ρ2 S2, g x ρ = some ρ1 ∧ (body ρ1 S = .nx ρ2 S2 ∨ body ρ1 S = .ct ρ2 S2) ∧ I (i + 1) ρ2 S2) →
    ∃ ρ' S', forD g body ys ρ S = .nx ρ' S' ∧ I xs.length ρ' S'
  | [], i, ρ, S, hle, e, h, _ => by
    have hq : i = xs.length := Nat.le_antisymm hle (List.drop_eq_nil_iff.mp e)
    subst hq; exact ⟨ρ, S, rfl, h⟩
  | y :: ys, i, ρ, S, hle, e, h, hs => by
    have hx : xs[i]? = some y := by
      have := congrArg (fun l => l[0]?) e
      simpa using this
    have hi : i < xs.length := (List.getElem?_eq_some_iff.mp hx).1
    obtain ⟨ρ1, ρ2, S2, e1, e2, h2⟩ := hs i y ρ S hx h
    have e' : xs.drop (i + 1) = ys := by
      have := congrArg List.tail e
      simpa [List.tail_drop] using this
    obtain ⟨ρ', S', e3, h3⟩ := forD_inv I hi e' h2 hs
    refine ⟨ρ', S', ?_, h3⟩
    unfold forD
    rw [e1]
    rcases e2 with e2 | e2 <;> simp only [e2] <;> exact e3
theorem forD_all {g : GF} {body : SF} (I : Nat → DEnv → Sto → Prop) {xs : List D} {ρ : DEnv} {S : Sto} (h : I 0 ρ S) (hs : ∀ i x ρ S, xs[i]? = some x → I i ρ S → ∃ ρ1 ρ2 S2, g x ρ = some ρ1 ∧ (body ρ1 S = .nx ρ2 S2 ∨ body ρ1 S = .ct ρ2 S2) ∧ I (i + 1) ρ2 S2) :
    ∃ ρ' S', forD g body xs ρ S = .nx ρ' S' ∧ I xs.length ρ' S' := forD_inv I (i := 0) (Nat.zero_le _) (by simp) h hs
theorem atI_0 {α : Type} (x : α) (r : List α) : L2.atI (x :: r) 0 = some x := by
  unfold L2.atI ixN
  rw [if_pos (by decide), if_pos (by simp only [List.length_cons]; omega)]
  rfl
theorem atI_1 {α : Type} (x y : α) (r : List α) : L2.atI (x :: y :: r) 1 = some y := by
  unfold L2.atI ixN
  rw [if_pos (by decide), if_pos (by simp only [List.length_cons]; omega)]
  rfl
theorem atI_nat {α : Type} {xs : List α} {i : Nat} (h : i < xs.length) : L2.atI xs (i : Int) = xs[i]? := by
  unfold L2.atI ixN
  rw [if_pos (by omega), if_pos (by omega)]
  rfl
end DL

set_option maxHeartbeats 1000000
/-! instances of plain classes: fields read and written, objects made, methods, properties -/
namespace DL
open PySem PySem.Spec PyProof.Rows L2
theorem ins_at {K : PySem.W.Frag} {w : Wit} {H : Hp} {S : Sto} {d : D} {v : V} {c : Str} {fs : List (Str × D)} (g : Gd K w H S) (z : Rep K w d v) (e : insOf S d = some (c, fs)) :
    ∃ a dx vs, v = .ref a ∧ H a = some (.ins (He.ga K c) dx vs) ∧ RepF K w fs vs := by
  cases d with
  | ins c' fs' =>
    cases e
    cases z with
    | ins h r => exact ⟨_, _, _, rfl, g.sub _ _ h, r⟩
  | obj n =>
    cases z with
    | obj hm =>
      unfold insOf at e
      dsimp only at e
      cases e1 : S[n]? with
      | none => rw [e1] at e; cases e
      | some so =>
        rw [e1] at e
        cases so with
        | ins c' fs' =>
          cases e
          obtain ⟨dx, vs, hH, r⟩ := g.sto n _ e1
          exact ⟨_, dx, vs, rfl, hH, r⟩
        | _ => cases e
  | _ => cases e
/-! ### e.f -/
section
variable {X : Cx} {W : WZ} {L : Lp} {O O' : List Nat} {e o a : Expr} {es : List Expr} {fe fo fv : EF} {fa : AF} {ff : FF} {f x m c : Str} {cs fs ps : List Str} {p pos pos' apos : Pos} {k j : Nat} {fd : FuncData} {fI : Addr}
theorem fld_of {K : PySem.W.Frag} (hT : ∀ c ∈ cs, Cls K (He.ga K c) ∧ NoAttr K (He.ga K c) f) : ∀ σ H Q, rd K .e W O (eFld cs f fe) σ H Q → tFld K (rd K .e W O fe) f σ H Q := by
  rintro σ H Q ⟨ent, w, ρ, S, r, p⟩
  refine ⟨ent, w, ρ, S, r, ?_⟩
  unfold eFld at p
  cases e1 : fe ρ S with
  | stuck => rw [e1] at p; exact p
  | exn x S1 => rw [e1] at p; exact p
  | ok d S1 =>
    rw [e1] at p
    intro v H1 w1 x1 g1 z
    have z : Rep K w1 d v := z
    dsimp only at p
    cases e2 : insOf S1 d with
    | none => rw [e2] at p; exact p.elim
    | some cf =>
      obtain ⟨c, fs⟩ := cf
      rw [e2] at p
      dsimp only at p
      by_cases hc : c ∈ cs
      · rw [if_pos hc] at p
        cases e3 : fs.lookup f with
        | none => rw [e3] at p; exact p.elim
        | some dv =>
          rw [e3] at p
          obtain ⟨a, dx, vs, rfl, hH, rf⟩ := ins_at g1 z e2
          obtain ⟨u, l, ru⟩ := rf.look e3
          exact ⟨a, _, dx, vs, u, rfl, hH, (hT c hc).1, (hT c hc).2, l, p u H1 w1 x1 g1 ru⟩
      · rw [if_neg hc] at p; exact p.elim
theorem de_fld (cs : List Str) (hT : ∀ c ∈ cs, Cls X.K (He.ga X.K c) ∧ NoAttr X.K (He.ga X.K c) f) (he : DE .e X W O e fe)
    (hb : attributeBase e f X.env (eval e X.env) = eval e X.env := by rfl) : DE .e X W O (.Attribute e f pos) (eFld cs f fe) := ⟨(pe_fld he.pe hb).imp (fld_of hT)⟩
/-! ### o.f = e -/
def sFldO (cs : List Str) (f : Str) (fo fv : EF) : SF := fun ρ S => sBind (fv ρ S) ρ fun v S1 => sBind (fo ρ S1) ρ fun o S2 => match o with
  | .obj n => (match S2[n]? with
    | some (.ins c fs) => if c ∈ cs ∧ fs.length < 1000 then .nx ρ (S2.set n (.ins c (putFD f v fs))) else .stuck
    | _ => .stuck)
  | _ => .stuck
theorem fldO_of {K : PySem.W.Frag} (hT : ∀ c ∈ cs, Cls K (He.ga K c) ∧ NoAttr K (He.ga K c) f) : ∀ En σ H, rdS K L W O O (sFldO cs f fo fv) En σ H → sFld K (rd K .e W O fo) (rd K .e W O fv) f En σ H := by
  rintro En σ H ⟨ent, w, ρ, S, r, p⟩
  refine ⟨ent, w, ρ, S, r, SPost.bind r p fun v S1 vv H1 w1 x1 g1 z1 q1 => ?_⟩
  have r1 := r.later x1 g1
  have z1 : Rep K w1 v vv := z1
  refine ⟨ent, w1, ρ, S1, r1, SPost.bind r1 q1 fun o S2 ov H2 w2 x2 g2 z2 q2 => ?_⟩
  have r2 := r1.later x2 g2
  cases o with
  | obj n =>
    dsimp only at q2
    have z2 : Rep K w2 (.obj n) ov := z2
    cases z2 with
    | obj hm =>
      cases e1 : S2[n]? with
      | none => rw [e1] at q2; exact q2.elim
      | some so =>
        rw [e1] at q2
        cases so with
        | ins c fs =>
          dsimp only at q2
          by_cases hc : c ∈ cs ∧ fs.length < 1000
          · rw [if_pos hc] at q2
            obtain ⟨dx, vs, hH, rf⟩ := g2.sto n _ e1
            refine ⟨w2.phi n, _, dx, vs, rfl, hH, (hT c hc.1).1, (hT c hc.1).2, by rw [← rf.length]; exact hc.2, ?_⟩
            exact q2 w2 _ σ (R.sto r2 e1 ⟨dx, _, upd_same, rf.put (z1.mono x2.le)⟩)
          · rw [if_neg hc] at q2; exact q2.elim
        | _ => exact q2.elim
  | _ => exact q2.elim
theorem ds_fld (cs : List Str) (hT : ∀ c ∈ cs, Cls X.K (He.ga X.K c) ∧ NoAttr X.K (He.ga X.K c) f) (ho : DE .e X W O o fo) (hv : DE .e X W O e fv)
    (hs : swapsWith e (some (.Attribute o f pos')) pos.line X.env = pure false := by rfl) : DS X W L O (.Assign [.Attribute o f pos'] e pos) O (sFldO cs f fo fv) := ⟨(ps_fld ho.pe hv.pe hs).imp (fldO_of hT)⟩
/-! ### an object made -/
def eMake (c : Str) (ff : FF) (fa : AF) : EF := fun ρ S => match fa ρ S with
  | .ok ds S1 => (match ff (.obj S1.length :: ds) (S1 ++ [.ins c []]) with
    | .ok .non S2 => .ok (.obj S1.length) S2
    | .ok _ _ => .stuck
    | .exn x S2 => .exn x S2
    | .stuck => .stuck)
  | .exn x S1 => .exn x S1
  | .stuck => .stuck
def tMkS (C : Addr) (sp : Sp) (E : L2.St → XK) (t : TA) : TE := fun σ H Q => t σ H fun vs H1 => ∀ x dx, H1 x = none → H1 dx = none → dx ≠ x → sp (.ref x :: vs) (L2.upd (L2.upd H1 dx (.own x)) x (.ins C dx [])) (fun v H2 => v = .non ∧ Q (.ref x) H2) (E σ)
theorem make_of {K : PySem.W.Frag} {n : Nat} (hlen : ∀ ρ S ds S1, fa ρ S = .ok ds S1 → ds.length = n) : ∀ σ H Q, rd K .e W O (eMake c ff fa) σ H Q → tMkS (He.ga K c) (spD K (n + 1) ff) (fun σ cls dx H' => W.wx cls dx σ H') (rdA K (PRep K) W O fa) σ H Q := by
  rintro σ H Q ⟨ent, w, ρ, S, r, p⟩
  refine ⟨ent, w, ρ, S, r, ?_⟩
  unfold eMake at p
  cases e1 : fa ρ S with
  | stuck => rw [e1] at p; exact p
  | exn x S1 => rw [e1] at p; exact p
  | ok ds S1 =>
    rw [e1] at p
    intro vs H1 w1 x1 g1 z a dx na nd ne
    have z : Reps K w1 ds vs := z
    dsimp only at p
    have x2 := Ext.newO (o := HO.own a) w1 nd
    have g2 := g1.newO (o := HO.own a) nd
    have na2 : L2.upd H1 dx (.own a) a = none := by rw [upd_ne (Ne.symm ne)]; exact na
    have x3 := Ext.add (o := HO.ins (He.ga K c) dx []) g2 na2
    have g3 := g2.add (so := .ins c []) na2 ⟨dx, [], upd_same, .nil⟩
    have ea : (w1.add a).phi S1.length = a := by simp [Wit.add, g1.len]
    have q : Rep K (w1.add a) (.obj S1.length) (.ref a) := by
      have q : Rep K (w1.add a) (.obj S1.length) (.ref ((w1.add a).phi S1.length)) := .obj (by simp [Wit.add, g1.len])
      rw [ea] at q
      exact q
    have hl : ds.length = n := hlen _ _ _ _ e1
    refine ⟨by simp [← z.length, hl], w1.add a, S1 ++ [.ins c []], .obj S1.length :: ds, g3, .cons q (z.mono (Le.add w1 a)), ?_⟩
    have xx := x1.trans (x2.trans x3)
    cases e2 : ff (.obj S1.length :: ds) (S1 ++ [.ins c []]) with
    | stuck => rw [e2] at p; exact p.elim
    | exn x S2 =>
      rw [e2] at p
      intro cls d H' w' y g' hx
      exact p cls d H' w' (xx.trans y) g' hx
    | ok d S2 =>
      rw [e2] at p
      cases d with
      | non =>
        intro v H' w' y g' hv
        cases hv
        exact ⟨rfl, p (.ref a) H' w' (xx.trans y) g' (Rep.mono y.le q)⟩
      | _ => exact p.elim
theorem run_mkS {CX : CXT} {C f : Addr} {sp : Sp} {E : L2.St → XK} {pins : List (Addr × Obj)} {σ : L2.St} {H : Hp} {s : Shared} {Q : VK} {us : List Value} {vs : List V} (M : Mk X.K C f) (F : FnOk X.prog X.w X.K X.mg X.base CX k f fd ps sp) (hr : Room (k + 1) X.A) (hb : Binds X.K fd ps []) (hx : PassesAt CX X σ (E σ)) (I : Inv X pins σ H s) (r : Vals vs us)
    (h : ∀ x dx, H x = none → H dx = none → dx ≠ x → sp (.ref x :: vs) (L2.upd (L2.upd H dx (.own x)) x (.ins C dx [])) (fun v H2 => v = .non ∧ Q (.ref x) H2) (E σ)) : wpAny (model X.prog X.w) X.A (call (.ref C) us) (EP X pins σ Q) X.xe s := by
  let b : Addr := s.heap.objs.size
  have q0 := h (b + 1) b (I.hok.fresh (Nat.le_succ _)) (I.hok.fresh (Nat.le_refl _)) (Nat.ne_of_lt (Nat.lt_succ_self _))
  have J := Inv.made (C := C) I
  have rr : Vals (V.ref (b + 1) :: vs) (Value.ref (b + 1) :: us) := .cons rfl r
  have hl : ((Value.ref (b + 1) :: us) ++ []).length = ps.length := by
    rw [List.append_nil, ← rr.length]
    exact F.len _ _ _ _ q0
  have B := hb _ (Value.ref (b + 1) :: us) J.kIn hl
  rw [List.append_nil] at B
  have run := F.run _ X.stack _ _ ⟨Value.ref (b + 1) :: us, []⟩ (Value.ref (b + 1) :: us) _ _ (E σ) (hr.make C us []) (J.env0.make C us []) B rr q0
  refine wpAny_call (make_map (f := f) I.kIn M.makes M.init (beq_iff_eq.mp M.fn) (codeAny_mono run fun res s' hq => ?_))
  match res, hq with
  | .error er, hq => exact hx pins _ _ er s' J hq
  | .ok (.ret u), hq =>
    obtain ⟨v, H', I3, rv, ev, q3⟩ := J.after hq
    subst ev
    exact ⟨rv, ⟨V.ref (b + 1), H', I3, rfl, q3⟩⟩
theorem pe_mkS {CX : CXT} {C f : Addr} {sp : Sp} {E : L2.St → XK} {t : TA} (M : Mk X.K C f) (F : FnOk X.prog X.w X.K X.mg X.base CX k f fd ps sp) (hr : Room (k + 1) X.A) (hg : Gl X x) (hm : X.mg x = some (.ref C)) (hb : Binds X.K fd ps []) (hx : ∀ σ, PassesAt CX X σ (E σ)) (ha : PA X (e :: es) t)
    (hdb : (x == ("__debug__" : Str)) = false := by decide) (he : starEach (e :: es) X.env = (false, eval e X.env) :: starEach es X.env := by rfl) (hpl : (backTo pos (starEach es X.env)).any (·.1) = false := by rfl) :
    PE X (.Call (.Name x p) (e :: es) [] pos) (tMkS C sp E t) := ⟨fun pins s σ H Q I h => by
  refine wpAny_Call_Name_kw (ld_glob I hg hm ?_ hdb)
  exact PySem.W.callWith_K (h₀ := X.base) I.ok.mod.kin M.kp (thn (ha.run pos pins s σ H _ I h) fun us s1 ⟨vs, H1, I1, r, q⟩ => ⟨I1.kIn, run_mkS M F hr hb (hx σ) I1 r q⟩) he hpl⟩
/-- a def (a method) at an address: its promise -/
structure Mok (P : Program) (w : World) (K : PySem.W.Frag) (mg : Str → Option Value) (base : Heap) (f : Addr) (k : Nat) (ps : List Str) (ff : FF) : Prop where
  ex : ∃ fd, FnOk P w K mg base (L2.CX P w) k f fd ps (spD K ps.length ff) ∧ Binds K fd ps []
theorem de_make (M : Mk X.K (He.ga X.K c) (He.ma X.K (He.ga X.K c) "__init__")) (h : Mok X.prog X.w X.K X.mg X.base (He.ma X.K (He.ga X.K c) "__init__") k ps ff) (hr : Room (k + 1) X.A) (tk : Takes X W.wx) (hm : X.mg c = some (.ref (He.ga X.K c))) (ha : DA X W O (e :: es) fa)
    {n : Nat} (hlen : ∀ ρ S ds S1, fa ρ S = .ok ds S1 → ds.length = n) (hn : ps.length = n + 1 := by rfl) (hg : Gl X c := by rfl)
    (hdb : (c == ("__debug__" : Str)) = false := by decide) (he : starEach (e :: es) X.env = (false, eval e X.env) :: starEach es X.env := by rfl) (hpl : (backTo pos (starEach es X.env)).any (·.1) = false := by rfl) :
    DE .e X W O (.Call (.Name c p) (e :: es) [] pos) (eMake c ff fa) := by
  obtain ⟨fd, F, hb⟩ := h.ex
  rw [hn] at F
  exact ⟨(pe_mkS M F hr hg hm hb (fun σ => L2.passAt tk σ) ha.pa hdb he hpl).imp (make_of hlen)⟩
/-! ### methods -/
/-! ### a property -/
end
end DL

set_option maxHeartbeats 1000000
/-! the hook with defs at any address (getters of properties); methods' promises -/
namespace DL
open PySem PySem.Spec PyProof.Rows L2
section
variable (fa : List He.Fa) (fn : List He.DefD) (ts : List He.Tab) (bs : List (PySem.W.Frag → Bool)) (fp : List He5.DefA)
end
section
variable {fa : List He.Fa} {fn : List He.DefD} {ts : List He.Tab} {bs : List (PySem.W.Frag → Bool)} {fp : List He5.DefA} {w : World} {K : PySem.W.Frag}
end
/-! ### properties -/
end DL

set_option maxHeartbeats 1000000
/-! comprehensions that walk over an own list -/
namespace DL
open PySem PySem.Spec PyProof.Rows L2
def ItOkE (K : PySem.W.Frag) (w : Wit) (H : Hp) (J : It) (ds : List D) : Prop := ∀ w' H' S' i, Ext w H w' H' → Gd K w' H' S' →
  (∀ d, ds[i]? = some d → J.go i H' ∧ ∀ x H2, J.yld i H' x H2 → ∃ w2, Ext w' H' w2 H2 ∧ Gd K w2 H2 S' ∧ Rep K w2 d x) ∧ (i = ds.length → J.stop i H')
theorem ItOk.e {K : PySem.W.Frag} {w : Wit} {H : Hp} {J : It} {ds : List D} (h : ItOk K w J ds) : ItOkE K w H J ds := fun w' H' S' i x g => h w' H' S' i x.le g
section
variable {X : Cx} {W : WZ} {O : List Nat} {elt tg iter : Expr} {ifs : List Expr} {scope : Scope} {own : List (Str × Nat)} {pos : Pos} {fi : IF} {g : GF} {t : TG} {fc fe : EF}
end
section
variable {X : Cx} {W : WZ} {O : List Nat} {elt tg iter : Expr} {ifs : List Expr} {scope : Scope} {own : List (Str × Nat)} {pos : Pos} {fi : IF} {g : GF} {t : TG} {fc fe : EF}
end
end DL

set_option maxHeartbeats 1000000
/-! module tuples of plain constants -/
namespace DL
open PySem PySem.Spec PyProof.Rows L2
theorem relsB_ok : ∀ {vs : List V} {us : List Value}, relsB vs us = true → Vals vs us
  | [], [], _ => .nil
  | v :: vs, u :: us, h => by
    obtain ⟨h1, h2⟩ := Bool.and_eq_true_iff.mp h
    exact .cons (He.relB_ok h1) (relsB_ok h2)
theorem ctB_ok {K : PySem.W.Frag} {a : Addr} {ts : List He.Dv} (h : ctB K a ts = true) : SqT K (fun _ => none) a (ts.map (·.v K)) := by
  unfold ctB at h
  cases e : K.lookup a with
  | none => rw [e] at h; cases h
  | some o =>
    rw [e] at h
    obtain ⟨oc, od, dt, sl⟩ := o
    cases oc with
    | type t =>
      cases dt with
      | seq its n =>
        dsimp only at h
        obtain ⟨h1, h⟩ := Bool.and_eq_true_iff.mp h
        obtain ⟨h2, h3⟩ := Bool.and_eq_true_iff.mp h
        have e1 : t = "tuple" := of_decide_eq_true h1
        subst e1
        exact .inr ⟨_, its, n, e, rfl, rfl, Nat.le_of_ble_eq_true h2, relsB_ok h3⟩
      | _ => cases h
    | _ => cases dt <;> cases h
theorem dvs_rep {K : PySem.W.Frag} {w : Wit} : ∀ {ts : List He.Dv} {ds : List D}, ts.map dvD = ds.map some → Reps K w ds (ts.map (·.v K))
  | [], [], _ => .nil
  | [], _ :: _, h => by cases h
  | _ :: _, [], h => by cases h
  | t :: ts, d :: ds, h => by
    simp only [List.map_cons, List.cons.injEq] at h
    exact .cons (dvD_rep h.1) (dvs_rep h.2)
theorem de_gtup {X : Cx} {W : WZ} {O : List Nat} {x : Str} {pos : Pos} {ts : List He.Dv} {ds : List D} (hm : X.mg x = some (.ref (He.ga X.K x))) (hc : ctB X.K (He.ga X.K x) ts = true) (ht : ts.map dvD = ds.map some := by rfl) (hg : Gl X x := by rfl) (hd : (x == ("__debug__" : Str)) = false := by decide) :
    DE .e X W O (.Name x pos) (eC (.ctp ds)) := de_glob (v := .ref (He.ga X.K x)) hm rfl (fun _ => .ctp (ctB_ok hc) (dvs_rep ht)) hg hd
end DL

set_option maxHeartbeats 1000000
/-! name = [.. for .. for ..] on one line; isinstance of an own class -/
namespace DL
open PySem PySem.Spec PyProof.Rows L2
section
variable {X : Cx} {W : WZ} {O : List Nat} {elt tg iter tg1 iter1 : Expr} {ifs ifs1 : List Expr} {scope : Scope} {own : List (Str × Nat)} {vs1 : List Nat} {pos : Pos} {fi fi1 : IF} {g g1 : GF} {t t1 : TG} {fc fc1 fe : EF}
theorem ds_lc2Own (i : Nat) {L : Lp} {y : Str} {py spos : Pos} (hN : X.N.Nodup) (ok : BlkOk X.N X.env.scope scope own) (hv : ∀ i, i ∈ vs1 → i ∈ own.map (·.2)) (hi : DI X W O tg iter fi)
    (hgo : GOk X.K O g t) (hg : ∀ (s : Shared) (H : Hp) (C : Addr) (cl : List (Str × Addr)) (fp : List Addr), PG (X.blk s H scope (compEnvC scope cl C X.env) fp) tg t) (ho : TOwn t (own.map (·.2)))
    (ht : ∀ (s : Shared) (H : Hp) (C : Addr) (cl : List (Str × Addr)) (fp : List Addr), DCs (X.blk s H scope (compEnvC scope cl C X.env) fp) W O ifs fc)
    (hi1 : ∀ (s : Shared) (H : Hp) (C : Addr) (cl : List (Str × Addr)) (fp : List Addr), DI (X.blk s H scope (compEnvC scope cl C X.env) fp) W.no O tg1 iter1 fi1)
    (hgo1 : GOk X.K O g1 t1) (hg1 : ∀ (s : Shared) (H : Hp) (C : Addr) (cl : List (Str × Addr)) (fp : List Addr), PG (X.blk s H scope (compEnvC scope cl C X.env) fp) tg1 t1) (ho1 : TOwn t1 vs1)
    (ht1 : ∀ (s : Shared) (H : Hp) (C : Addr) (cl : List (Str × Addr)) (fp : List Addr), DCs (X.blk s H scope (compEnvC scope cl C X.env) fp) W O ifs1 fc1)
    (he : ∀ (s : Shared) (H : Hp) (C : Addr) (cl : List (Str × Addr)) (fp : List Addr), DE .e (X.blk s H scope (compEnvC scope cl C X.env) fp) W.no O elt fe)
    (hsw : swapsWith (.ListComp elt [⟨tg, iter, ifs, 0⟩, ⟨tg1, iter1, ifs1, 0⟩] scope pos) (some (.Name y py)) spos.line X.env = pure true) (hyl : X.env.scope.names.lookup y = some .local := by rfl) (hiO : i ∉ O := by decide) (hy : X.N[i]? = some y := by rfl)
    (hO : ∀ i, i ∈ own.map (·.2) → i ∉ O := by decide) (hO1 : ∀ i, i ∈ vs1 → i ∉ O := by decide) (hc : X.calm = true := by rfl) (hs : ∀ x, foldedSetIterable iter X.env x = pure x := by intro _; rfl) (hs1 : ∀ env x, foldedSetIterable iter1 env x = pure x := by intro _ _; rfl) :
    DS X W L O (.Assign [.Name y py] (.ListComp elt [⟨tg, iter, ifs, 0⟩, ⟨tg1, iter1, ifs1, 0⟩] scope pos) spos) (i :: O) (sSet i (eLc2 (own.map (·.2)) vs1 fi g fc fi1 g1 fc1 fe)) :=
  ⟨(ps_setLc2 (tt := rdT X.K W.no O fc) (tt1 := rdT X.K W.no O fc1) (te := rd X.K .e W.no O fe) (wi1 := rdI X.K W.no O fi1) hc hN hy hyl hsw hi.pi ok hv hg (fun s H C cl fp => (ht s H C cl fp).pts) (fun s H C cl fp => (hi1 s H C cl fp).pi) hg1 (fun s H C cl fp => (ht1 s H C cl fp).pts) (fun s H C cl fp => (he s H C cl fp).pe) hs hs1).imp fun En σ H h => lc2_of hgo ho hgo1 ho1 hO hO1 σ H _ (setOwn_of hiO En σ H h)⟩
theorem ds_lc2Set (i : Nat) {L : Lp} {y : Str} {py spos : Pos} (hN : X.N.Nodup) (ok : BlkOk X.N X.env.scope scope own) (hv : ∀ i, i ∈ vs1 → i ∈ own.map (·.2)) (hi : DI X W O tg iter fi)
    (hgo : GOk X.K O g t) (hg : ∀ (s : Shared) (H : Hp) (C : Addr) (cl : List (Str × Addr)) (fp : List Addr), PG (X.blk s H scope (compEnvC scope cl C X.env) fp) tg t) (ho : TOwn t (own.map (·.2)))
    (ht : ∀ (s : Shared) (H : Hp) (C : Addr) (cl : List (Str × Addr)) (fp : List Addr), DCs (X.blk s H scope (compEnvC scope cl C X.env) fp) W O ifs fc)
    (hi1 : ∀ (s : Shared) (H : Hp) (C : Addr) (cl : List (Str × Addr)) (fp : List Addr), DI (X.blk s H scope (compEnvC scope cl C X.env) fp) W.no O tg1 iter1 fi1)
    (hgo1 : GOk X.K O g1 t1) (hg1 : ∀ (s : Shared) (H : Hp) (C : Addr) (cl : List (Str × Addr)) (fp : List Addr), PG (X.blk s H scope (compEnvC scope cl C X.env) fp) tg1 t1) (ho1 : TOwn t1 vs1)
    (ht1 : ∀ (s : Shared) (H : Hp) (C : Addr) (cl : List (Str × Addr)) (fp : List Addr), DCs (X.blk s H scope (compEnvC scope cl C X.env) fp) W O ifs1 fc1)
    (he : ∀ (s : Shared) (H : Hp) (C : Addr) (cl : List (Str × Addr)) (fp : List Addr), DE .e (X.blk s H scope (compEnvC scope cl C X.env) fp) W.no O elt fe)
    (hsw : swapsWith (.ListComp elt [⟨tg, iter, ifs, 0⟩, ⟨tg1, iter1, ifs1, 0⟩] scope pos) (some (.Name y py)) spos.line X.env = pure true) (hyl : X.env.scope.names.lookup y = some .local := by rfl) (hiO : i ∉ O := by decide) (hy : X.N[i]? = some y := by rfl)
    (hO : ∀ i, i ∈ own.map (·.2) → i ∉ O := by decide) (hO1 : ∀ i, i ∈ vs1 → i ∉ O := by decide) (hc : X.calm = true := by rfl) (hs : ∀ x, foldedSetIterable iter X.env x = pure x := by intro _; rfl) (hs1 : ∀ env x, foldedSetIterable iter1 env x = pure x := by intro _ _; rfl) :
    DS X W L O (.Assign [.Name y py] (.ListComp elt [⟨tg, iter, ifs, 0⟩, ⟨tg1, iter1, ifs1, 0⟩] scope pos) spos) O (sSet i (eLc2 (own.map (·.2)) vs1 fi g fc fi1 g1 fc1 fe)) :=
  ⟨(ps_setLc2 (tt := rdT X.K W.no O fc) (tt1 := rdT X.K W.no O fc1) (te := rd X.K .e W.no O fe) (wi1 := rdI X.K W.no O fi1) hc hN hy hyl hsw hi.pi ok hv hg (fun s H C cl fp => (ht s H C cl fp).pts) (fun s H C cl fp => (hi1 s H C cl fp).pi) hg1 (fun s H C cl fp => (ht1 s H C cl fp).pts) (fun s H C cl fp => (he s H C cl fp).pe) hs hs1).imp fun En σ H h => lc2_of hgo ho hgo1 ho1 hO hO1 σ H _ (setF_of hiO En σ H h)⟩
end
theorem clsIB_ok {K : PySem.W.Frag} {c : Str} (h : clsIB K c = true) : ClsI K c := by
  unfold clsIB at h
  obtain ⟨h1, h⟩ := Bool.and_eq_true_iff.mp h
  obtain ⟨h2, h⟩ := Bool.and_eq_true_iff.mp h
  obtain ⟨h3, h⟩ := Bool.and_eq_true_iff.mp h
  obtain ⟨h4, h5⟩ := Bool.and_eq_true_iff.mp h
  exact ⟨He.cls_ok h1, He.eqO_ok h2, He.eqO_ok h3, of_decide_eq_true h4, of_decide_eq_true h5⟩
theorem isK_own {K : PySem.W.Frag} {c : Str} {to : Str → Option Bool} (h : isOwnB K c = true) (h2 : ∀ z b, to z = some b → ClsI K z ∧ PySem.W.kitAny K (.ref (He.ga K z)) [.ref (He.ga K c)] = some b) : IsK K [.ref (He.ga K c)] (fun _ => false) to :=
  ⟨fun t ht => of_decide_eq_true (List.all_eq_true.mp h t ht), h2⟩
end DL

set_option maxHeartbeats 4000000
/-! t[::-1] of tuples -/
namespace HT
open PySem PySem.Spec PyProof.Rows
section
variable {prog : Program} {w : World} {A : Around} {E : Value → Shared → Prop} {s : Shared}
theorem adjust_rev (n : Nat) : Builtin.Slice.sliceAdjust none none (-1) (n : Int) = ((n : Int) - 1, -1) := by
  unfold Builtin.Slice.sliceAdjust
  simp
theorem places_rev (n : Nat) : Builtin.Slice.slicePlaces ((n : Int) - 1) (-1) (-1) = n := by
  unfold Builtin.Slice.slicePlaces
  have h1 : ¬ ((-1 : Int) > 0) := by omega
  have h2 : (- -1 : Int) = 1 := by decide
  simp only [h1, if_false, h2, Int.ediv_one]
  split <;> omega
theorem sliceApplied_rev {sl : Addr} {vs : Value} {n : Nat} {Q : Int × Int × Nat → Shared → Prop} (hs : s.heap.IsSliceOf sl .none .none vs) (ps : IsPart vs (some (-1)))
    (h : Q ((n : Int) - 1, -1, n) s) : wpAny (model prog w) A (Builtin.Slice.sliceApplied (.ref sl) (pure (n : Int))) Q E s := by
  obtain ⟨os, hos, hcs, hds⟩ := id hs
  unfold Builtin.Slice.sliceApplied Builtin.Slice.sliceFields
  refine wpAny_bind (wpAny_bind (wpAny_field hos hds (x := .none) rfl (wpAny_bind (wpAny_field hos hds (x := .none) rfl (wpAny_bind (wpAny_field hos hds (x := vs) rfl (wpAny_pure ?_)))))))
  refine wpAny_bind (slicePart_ ps ?_)
  show wpAny _ _ (if ((-1 : Int) == 0) = true then _ else _) _ _ s
  rw [if_neg (by decide)]
  refine wpAny_bind (slicePart_none (wpAny_bind (slicePart_none (wpAny_bind (wpAny_pure ?_)))))
  show wpAny _ _ (match Builtin.Slice.sliceAdjust none none (-1) (n : Int) with | (lo, hi) => pure (lo, (-1 : Int), Builtin.Slice.slicePlaces lo hi (-1))) _ _ s
  rw [adjust_rev n]
  show wpAny _ _ (pure ((n : Int) - 1, (-1 : Int), Builtin.Slice.slicePlaces ((n : Int) - 1) (-1) (-1))) _ _ s
  rw [places_rev]
  exact wpAny_pure h
theorem fm_congr {α β : Type} {f g : α → Option β} : ∀ {l : List α}, (∀ a ∈ l, f a = g a) → l.filterMap f = l.filterMap g
  | [], _ => rfl
  | a :: l, h => by
    rw [List.filterMap_cons, List.filterMap_cons, h a List.mem_cons_self, fm_congr fun b hb => h b (List.mem_cons_of_mem _ hb)]
theorem pick_rev (xs : Array Value) : ((List.range xs.size).filterMap fun (m : Nat) => xs[((xs.size : Int) - 1 + (m : Int) * (-1)).toNat]?).toArray = xs.toList.reverse.toArray := by
  have e : (List.range xs.size).filterMap (fun (m : Nat) => xs[((xs.size : Int) - 1 + (m : Int) * (-1)).toNat]?) = ((List.range xs.size).map fun k => xs.size - 1 - k).filterMap (fun m => xs[m]?) := by
    rw [List.filterMap_map]
    refine fm_congr fun m hm => ?_
    have hm' := List.mem_range.mp hm
    show xs[((xs.size : Int) - 1 + (m : Int) * (-1)).toNat]? = xs[xs.size - 1 - m]?
    have : ((xs.size : Int) - 1 + (m : Int) * (-1)).toNat = xs.size - 1 - m := by omega
    rw [this]
  rw [e, PySem.W.krv_range, List.filterMap_reverse]
  have := PySem.W.krv_all xs
  rw [this]
theorem getItem_tuple_rev {t sl : Addr} {items : Array Value} {vs : Value} {Q : Value → Shared → Prop} (ht : IsTup s.heap t items) (hs : s.heap.IsSliceOf sl .none .none vs) (ps : IsPart vs (some (-1)))
    (h : Q (.ref s.heap.objs.size) { s with heap := s.heap.push { cls := .type "tuple", data := .seq items.toList.reverse.toArray } })
    (hsz : items.size ≤ sizeLine) : wpAny (model prog w) A (getItem (.ref t) (.ref sl)) Q E s := by
  have htake : sizeOk (.seq items.toList.reverse.toArray) := by
    show items.toList.reverse.toArray.size ≤ sizeLine
    rw [List.size_toArray, List.length_reverse, Array.length_toList]
    exact hsz
  obtain ⟨os, hos, hcs, hds⟩ := id hs
  have hTs : s.TypeIs (.ref sl) "slice" := ⟨os, hos, hcs⟩
  unfold getItem
  try with_reducible refine wpAny_holding ?_
  first | refine wpAny_bind (wpAny_pure ?_) | skip
  refine wpAny_bind (wpAny_sequenceKey ht.typeIs (by decide) ?_)
  refine wpAny_bind (wpAny_callSpecial?_slot (name := Str.ofString "__getitem__") ht.typeIs PyProof.Rows.slot_tuple_getitem
    (wpAny_call_entry PyProof.Rows.slot_tuple_getitem ht.typeIs entry_tuple_getitem ?_ (args_tuple_getitem _ _)))
  show wpAny _ _ (Builtin.Tuple.tupleItemsOf (.ref t) >>= _) _ _ s
  refine wpAny_bind (tupleItemsOf_ ht ?_)
  refine wpAny_bind (wpAny_typeOf hTs ?_)
  rw [if_pos (by decide)]
  refine wpAny_bind (sliceApplied_rev hs ps ?_)
  have hno : ¬ ((((items.size : Int) - 1) == 0 && (-1 : Int) == 1 && items.size == items.size) = true) := by
    intro q
    rw [Bool.and_eq_true, Bool.and_eq_true] at q
    have q1 : (-1 : Int) = 1 := eq_of_beq q.1.2
    omega
  show wpAny _ _ (if (((items.size : Int) - 1) == 0 && (-1 : Int) == 1 && items.size == items.size) = true then _ else _) _ _ s
  rw [if_neg hno, pick_rev]
  first
    | exact wpAny_bind (m := Builtin.Tuple.tupleExact _) (wpAny_newObj_type (wpAny_pure ⟨_, rfl, wpAny_pure h⟩) htake)
    | exact wpAny_bind (m := Builtin.Tuple.tupleExact _) (wpAny_newObj_type (wpAny_bind (wpAny_pure (wpAny_pure ⟨_, rfl, wpAny_pure h⟩))) htake)
    | exact wpAny_bind (wpAny_bind (m := Builtin.Tuple.tupleExact _) (wpAny_newObj_type (wpAny_pure (wpAny_pure ⟨_, rfl, wpAny_pure h⟩)) htake))
    | exact wpAny_bind (wpAny_bind (m := Builtin.Tuple.tupleExact _) (wpAny_newObj_type (wpAny_pure ⟨_, rfl, wpAny_pure h⟩) htake))
end
end HT
namespace L2
open PySem PySem.Spec PyProof.Rows
def tRevA (K : PySem.W.Frag) (te : TE) : TE := fun σ H Q => te σ H fun x H1 => ∃ a xs, x = .ref a ∧
  ((SqL K H1 a xs ∧ ∀ p, H1 p = none → Q (.ref p) (upd H1 p (.lst xs.reverse))) ∨ (SqT K H1 a xs ∧ ∀ p, H1 p = none → Q (.ref p) (upd H1 p (.tup xs.reverse))))
section
variable {X : Cx}
theorem pe_revA {e : Expr} {te : TE} {k : Nat} {p1 p2 p3 pos : Pos} (he : PE X e te) : PE X (.Subscript e (.Slice none none (some (.UnaryOp .USub (.Constant (.int 1) k p1) p2)) p3) pos) (tRevA X.K te) := by
  refine ⟨fun pins s σ H Q I h => ?_⟩
  refine Subscript_ (thn (he.run pins s σ H _ I h) fun v s1 ⟨x, H1, I1, r1, q1⟩ => ?_)
  obtain ⟨a, xs, ex, q⟩ := q1
  subst ex
  cases r1
  have hst : PO X (some (.UnaryOp .USub (.Constant (.int 1) k p1) p2)) (tPart (tUn (rU fun i => .int (-i)) (tC (.int 1)))) := po_some (pe_un un_neg pe_int)
  refine wpAny_Slice (thn (po_none.run pins s1 σ H1 (fun o H2 => o = none ∧ H2 = H1) I1 ⟨rfl, rfl⟩) fun vl s2 ⟨l, H2, I2, pl, el, e2⟩ => ?_)
  subst el e2
  refine thn (po_none.run pins s2 σ H2 (fun o H3 => o = none ∧ H3 = H2) I2 ⟨rfl, rfl⟩) fun vu s3 ⟨u, H3, I3, pu, eu, e3⟩ => ?_
  subst eu e3
  refine thn (hst.run pins s3 σ H3 (fun o H4 => o = some (-1) ∧ H4 = H3) I3 ⟨1, rfl, -1, rfl, rfl, rfl⟩) fun vs s4 ⟨o, H4, I4, ps, eo, e4⟩ => ?_
  subst eo e4
  have I5 : Inv X pins σ H4 { s4 with heap := s4.heap.push { cls := .type "slice", data := .fields #[vl, vu, vs] } } := I4.kept (t' := s4.toks) fun b ob q => Heap.get?_push_of_some _ q
  show wpAny (model X.prog X.w) X.A (subscriptTail e (.Slice none none (some (.UnaryOp .USub (.Constant (.int 1) k p1) p2)) p3) (.ref a) (.ref s4.heap.objs.size)) (EP X pins σ Q) X.xe { s4 with heap := s4.heap.push { cls := .type "slice", data := .fields #[vl, vu, vs] } }
  rcases q with ⟨hx, q⟩ | ⟨hx, q⟩
  · obtain ⟨its, r, ht, hz⟩ := I5.list hx
    have hlen := r.length
    refine tail_any (ops := [.ref a, .ref s4.heap.objs.size]) ht.isList.typeIs (PySem.slot_list_getitem.lookup) ?_ (by with_unfolding_all rfl)
    refine wpAny_getItem_list_slice ht.isList (Heap.IsSliceOf.new _ vl vu vs) pl pu ps (by decide) ?_ (by rw [List.size_toArray]; omega)
    rw [PySem.W.krv_pick]
    refine ⟨.ref _, _, I5.laid (t' := s4.toks) (o := .lst xs.reverse) (fun b ob q => Heap.get?_push_of_some _ q) (Nat.le_refl _) ?_, rfl, q _ (I5.hok.fresh (Nat.le_refl _))⟩
    exact ⟨by rw [List.length_reverse]; exact hz, _, 0, r.reverse, Heap.get?_push_size _ rfl⟩
  · obtain ⟨its, r, ht, hz⟩ := I5.tuple hx
    have hlen : its.toArray.size = xs.length := by rw [List.size_toArray]; exact r.length.symm
    have evl : vl = .none := by cases pl; rfl
    have evu : vu = .none := by cases pu; rfl
    subst evl evu
    refine tail_any (ops := [.ref a, .ref s4.heap.objs.size]) ht.typeIs (PyProof.Rows.slot_tuple_getitem.lookup) ?_ (by with_unfolding_all rfl)
    refine HT.getItem_tuple_rev ht (Heap.IsSliceOf.new _ .none .none vs) ps ?_ (by rw [hlen]; exact hz)
    refine ⟨.ref _, _, I5.laid (t' := s4.toks) (o := .tup xs.reverse) (fun b ob q => Heap.get?_push_of_some _ q) (Nat.le_refl _) ?_, rfl, q _ (I5.hok.fresh (Nat.le_refl _))⟩
    exact ⟨by rw [List.length_reverse]; exact hz, _, r.reverse, IsTup.new _ _⟩
end
end L2
namespace DL
open PySem PySem.Spec PyProof.Rows L2
section
variable {X : Cx} {W : WZ} {O : List Nat} {e : Expr} {fa : EF} {ka : Kd} {pos : Pos}
theorem revA_of {K : PySem.W.Frag} : ∀ σ H Q, rd K .e W O (e1 revA fa) σ H Q → tRevA K (rd K ka W O fa) σ H Q := by
  rintro σ H Q ⟨ent, w, ρ, S, r, p⟩
  refine ⟨ent, w, ρ, S, r, p.bind fun d S1 v H1 w1 x g1 z p1 => ?_⟩
  have v1 := (z.ext (H1 := H1) (.refl _ _)).vw g1
  generalize deref S1 d = D1 at v1 p1
  cases v1 with
  | @lst a vs ds h rr => exact ⟨a, vs, rfl, .inl ⟨h, fun p np => p1 _ _ (w1.new p (.lst vs.reverse)) (Ext.newF g1 np) (g1.new np) (.lst (.inl (.inl upd_same)) (rr.reverse.mono (Le.new (g1.noneF np))))⟩⟩
  | @tup a vs ds h rr => exact ⟨a, vs, rfl, .inr ⟨SqT.of (g1.sub _ _ h), fun p np => p1 _ _ (w1.new p (.tup vs.reverse)) (Ext.newF g1 np) (g1.new np) (.tup upd_same (rr.reverse.mono (Le.new (g1.noneF np))))⟩⟩
  | @ctp a vs ds h rr => exact ⟨a, vs, rfl, .inr ⟨SqT.monoF none_le h, fun p np => p1 _ _ (w1.new p (.tup vs.reverse)) (Ext.newF g1 np) (g1.new np) (.tup upd_same (rr.reverse.mono (Le.new (g1.noneF np))))⟩⟩
  | _ => exact p1.elim
theorem de_revA {kk : Nat} {p1 p2 p3 : Pos} (ha : DE ka X W O e fa) : DE .e X W O (.Subscript e (.Slice none none (some (.UnaryOp .USub (.Constant (.int 1) kk p1) p2)) p3) pos) (e1 revA fa) := ⟨(pe_revA ha.pe).imp revA_of⟩
end
end DL

set_option maxHeartbeats 1000000
/-! defs that hand back a new list -/
namespace DL
open PySem PySem.Spec PyProof.Rows L2
def PostG (K : PySem.W.Frag) (w : Wit) (H : Hp) (r : Res) (Q : VK) (E : XK) : Prop := match r with
  | .ok d S => ∀ v H' w', Ext w H w' H' → Gd K w' H' S → KP K .f H w' H' d v → Q v H'
  | .exn x S => ∀ cls dx H' w', Ext w H w' H' → Gd K w' H' S → RepX K w' H' x cls dx → E cls dx H'
  | .stuck => False
section
variable {P : Program} {w : World} {K : PySem.W.Frag} {mg : Str → Option Value} {base : Heap} {x qual : Str} {params : Arguments} {body : List Stmt} {scope : Scope} {dvs : List V} {kws : List (Str × V)} {f : Addr} {fd : FuncData}
end
theorem PostF.g {K : PySem.W.Frag} {w : Wit} {H : Hp} {r : Res} {Q : VK} {E : XK} (h : PostF K w H r Q E) : PostG K w H r Q E := by
  cases r with
  | ok d S =>
    intro v H' w' x g ⟨a, e, n, o⟩
    subst e
    exact h (.ref a) H' (w'.fix H' a) (x.fix o.1 n) (g.fix o.1 o.2.1 fun _ => o.notbl) o.rep
  | exn y S => exact h
  | stuck => exact h
section
variable {X : Cx} {W : WZ} {O : List Nat} {k : Nat} {ps : List Str} {ff : FF} {x : Str} {p pos : Pos} {e : Expr} {es : List Expr} {fa : AF} {f : Addr} {fd : FuncData}
theorem Post.g {K : PySem.W.Frag} {w : Wit} {H : Hp} {σ : L2.St} {r : Res} {Q : VK} (h : Post K .f w H W σ r Q) : PostG K w H r Q (fun cls dx H' => W.wx cls dx σ H') := by
  cases r with
  | ok d S => exact h
  | exn x S => exact h
  | stuck => exact h
end
end DL

/-! x == () at tuples of any items -/
namespace DL
open PySem PySem.Spec PyProof.Rows L2
theorem eqE_tup (xs : List D) : eqE (.tup xs) (.tup []) = some (.bl xs.isEmpty) := rfl
section
variable {X : Cx}
theorem op_eqe (hu : X.A.units + 64 < cLine) : OpR X (compareOp .Eq) (r2 X.K .e eqE) := by
  intro pins s σ H x y v u Q I rx ry ⟨w, S, d1, d2, d, g, k1, k2, e, q⟩
  by_cases h : ∃ xs, deref S d1 = .tup xs ∧ deref S d2 = .tup []
  · obtain ⟨xs, h1, h2⟩ := h
    have v1 := k1.vw g
    have v2 := k2.vw g
    rw [h1] at v1 e
    rw [h2] at v2 e
    simp only [eqE] at e
    cases e
    cases v1 with
    | @tup a1 vs1 ds1 t1 r1 =>
      cases v2 with
      | @tup a2 vs2 ds2 t2 r2 =>
        cases rx
        cases ry
        obtain ⟨its1, l1, p1, _⟩ := I.tuple (SqT.of (g.sub _ _ t1))
        obtain ⟨its2, l2, p2, _⟩ := I.tuple (SqT.of (g.sub _ _ t2))
        have n2 : its2.length = 0 := by
          have h1 := r2.length
          have h2 := l2.length
          rw [List.length_nil] at h1
          omega
        have n1 : its1.length = xs.length := by
          have := r1.length
          have := l1.length
          omega
        refine SeqAt.eq_tupleAt (e := fun _ => true) p1 p2 (by omega) (fun j a b => ?_) ?_
        · simp at b; omega
        · have key : ((List.range (min its1.toArray.size its2.toArray.size)).all (fun _ => true) && its1.toArray.size == its2.toArray.size) = xs.isEmpty := by
            have : (List.range (min its1.toArray.size its2.toArray.size)).all (fun _ => true) = true := by simp [List.all_eq_true]
            rw [this, Bool.true_and, Bool.eq_iff_iff, beq_iff_eq, List.isEmpty_iff, List.size_toArray, List.size_toArray]
            rw [n1, n2]
            exact List.length_eq_zero_iff
          exact ⟨.bl _, H, I, by rw [key]; rfl, q _ H w (.refl _ _) g (.bl _)⟩
  · have e' : eqF (deref S d1) (deref S d2) = some d := by
      rw [← e]
      unfold eqE
      split
      · rename_i h1 h2
        exact absurd ⟨_, h1, h2⟩ h
      · rfl
    exact op_eqd hu pins s σ H x y v u Q I rx ry ⟨w, S, d1, d2, d, g, k1, k2, e', q⟩
end
end DL

/-! l.index(x) -/
namespace DL
open PySem PySem.Spec PyProof.Rows L2
section
variable {X : Cx} {W : WZ} {O : List Nat} {o e : Expr} {fo fe : EF} {ka kb : Kd} {apos cpos : Pos}
theorem idx_of {K : PySem.W.Frag} : ∀ σ H Q, rd K .e W O (eIdx fo fe) σ H Q → tBM K "list" (rIndexD K) (rd K ka W O fo) (tCons (rd K kb W O fe) tNil) σ H Q := by
  rintro σ H Q ⟨ent, w, ρ, S, r, p⟩
  refine ⟨ent, w, ρ, S, r, p.bind fun d S1 v H1 w1 x1 g1 z1 p1 => ?_⟩
  have v1 := (z1.ext (H1 := H1) (.refl _ _)).vw g1
  have r1 := r.later x1 g1
  generalize hD : deref S1 d = D1 at v1 p1
  cases v1 with
  | @lst a vs ds h rr =>
    refine ⟨.inl ⟨rfl, _, h⟩, ?_⟩
    refine ⟨ent, w1, ρ, S1, r1, p1.bind fun d2 S2 v2 H2 w2 x2 g2 z2 p2 => ?_⟩
    have a2 := (z1.ext (H1 := H2) x2).vw g2
    have b2 := (z2.ext (H1 := H2) (.refl _ _)).vw g2
    cases e : ixOf (deref S2 d) (deref S2 d2) with
    | none => rw [e] at p2; exact p2.elim
    | some r =>
      rw [e] at p2
      generalize deref S2 d = E1 at a2 e
      generalize deref S2 d2 = E2 at b2 e
      unfold ixOf at e
      split at e
      · rename_i ds'
        split at e
        · rename_i hsh
          obtain ⟨s1, s2⟩ := hsh
          cases hj : ds'.findIdx? (fun z => eqD z E2) with
          | none => rw [hj] at e; cases e
          | some j =>
            rw [hj] at e
            cases e
            have t1 := Bool.and_eq_true_iff.mp s1
            have t2 := Bool.and_eq_true_iff.mp s2
            obtain ⟨hl, hp, hn⟩ := List.findIdx?_eq_some_iff_getElem.mp hj
            refine ⟨a, v2, toPy E2, toPys ds', j, toPy ds'[j], rfl, rfl, a2.dp g2.sub t2.1, b2.dp g2.sub t1.1, t2.2, t1.2, ?_, hp, fun m z' hm hz' => ?_, ?_⟩
            · rw [toPys_map, List.getElem?_map, List.getElem?_eq_getElem hl]; rfl
            · rw [toPys_map, List.getElem?_map] at hz'
              have hml : m < ds'.length := by omega
              rw [List.getElem?_eq_getElem hml] at hz'
              cases hz'
              have := hn m hm
              exact (by simpa using this : eqD ds'[m] E2 = false)
            · exact p2 _ H2 w2 (.refl _ _) g2 (.int _)
        · cases e
      · cases e
  | _ => exact p1.elim
theorem de_idx (hu : X.A.units + 65 < cLine) (ho : DE ka X W O o fo) (he : DE kb X W O e fe)
    (hbase : attributeBase o "index" X.env (eval o X.env) = eval o X.env := by rfl)
    (hfew : ((backTo cpos (starEach [e] X.env)).all (fun x => !x.1) && (backToKw cpos (keywordEach [] X.env)).all (fun x => x.1.isSome)
      && decide (([e] : List Expr).length + ([] : List Keyword).length + (if ([] : List Keyword).isEmpty then 0 else 1) < 30)) = true := by rfl)
    (hline : (apos.endLine == cpos.line) = true := by rfl) (hs : starEach [e] X.env = (false, eval e X.env) :: starEach [] X.env := by rfl) (hplain : (backTo cpos (starEach [] X.env)).any (·.1) = false := by rfl) :
    DE .e X W O (.Call (.Attribute o "index" apos) [e] [] cpos) (eIdx fo fe) :=
  ⟨(pe_bm PySem.F.plainAttrs_list PySem.F.slot_list_index PySem.F.type_list_index (mt_indexD hu) ho.pe (pa_cons he.pe pa_nil hs) hbase hfew hline hs hplain).imp idx_of⟩
end
end DL

/-! tuple(d), the keys of d are tuples -/
namespace DL
open PySem PySem.Spec PyProof.Rows L2
section
variable {prog : Program} {w : World} {A : Around} {E : Value → Shared → Prop} {s : Shared} {r d : Addr} {n : Nat} {P : Nat → Value → Prop} {OK : Heap → Prop}
theorem code_tupK {Q₁ : Value → Shared → Prop} (K : PySem.W.KdlSrc prog w "dict" r d n P OK) (hh : A.handled = none) (hok : OK s.heap) (hn : n ≤ sizeLine)
    (h : ∀ (h' : Heap) (tk : Nat) (acc : Array Value), (∀ b o, s.heap.get? b = some o → h'.get? b = some o) → ItemsOf P acc n → Q₁ (.ref h'.objs.size) { s with heap := h'.push { cls := .type "tuple", data := .seq acc }, toks := tk }) :
    codeAny (model prog w) A (.call (.builtin "tuple.__new__") ⟨[.type "tuple", .ref r], []⟩) (wants Q₁ E) s := by
  refine codeAny_of_tree (show wpAny _ A.in1 (do checkBuiltinCall "tuple.__new__" ⟨[.type "tuple", .ref r], []⟩; again (.builtin "tuple.__new__" ⟨[.type "tuple", .ref r], []⟩)) _ _ s from ?_)
  refine wpAny_bind (wpAny_of_eq (F.newCall_tuple_1 _) (wpAny_pure ⟨plainId_quiet F.plain_tuple_new _, codeAny_builtin F.entry_tuple_new ?_⟩))
  rw [Around.under_plainId F.plain_tuple_new _]
  have t1 := K.type s hok
  have a1 := sub_tuple_self
  have a2 := init_tuple_lookup
  have a3 := madeHere_tuple
  have hh1 : A.in1.handled = none := hh
  wp_walk using wpAny_typeOf t1, PySem.W.kdu_collect (A := A.in1) K hh1 hok hn
  intro h' tk acc kp it
  have el : acc.toList.toArray = acc := by simp
  show wpAny _ _ (Builtin.Tuple.tupleExact acc.toList.toArray >>= fun v => ret v) _ _ _
  unfold Builtin.Tuple.tupleExact
  rw [el]
  exact wpAny_bind (wpAny_newObj_type (wpAny_pure (h h' tk acc kp it)) (by show acc.size ≤ sizeLine; rw [it.1]; exact hn))
theorem call_tupK {Q : Value → Shared → Prop} (K : PySem.W.KdlSrc prog w "dict" r d n P OK) (hh : A.handled = none) (hok : OK s.heap) (hn : n ≤ sizeLine)
    (h : ∀ (h' : Heap) (tk : Nat) (acc : Array Value), (∀ b o, s.heap.get? b = some o → h'.get? b = some o) → ItemsOf P acc n → Q (.ref h'.objs.size) { s with heap := h'.push { cls := .type "tuple", data := .seq acc }, toks := tk }) :
    wpAny (model prog w) A (call (.type "tuple") [.ref r]) Q E s :=
  callType_codes (Q₁ := fun obj s₁ => s₁.TypeIs obj "tuple" ∧ Q obj s₁) F.called_tuple (F.typeCall_tuple_1 _) F.entry_object_init
    (code_tupK (A := A.in1) K hh hok hn fun h' tk acc kp it => ⟨⟨_, Heap.get?_push_size _ rfl, rfl⟩, h h' tk acc kp it⟩)
    fun obj s₁ z => ⟨z.1, F.args_object_init_2 obj _, object_init_meets F.called_tuple.init.lookup F.called_tuple.made (by decide) prog w A.in1 _ s₁ ⟨z.1, rfl, z.2⟩⟩
end
section
variable {X : Cx}
theorem call_tuple_dT (hc : X.calm = true) : CallR X (.type "tuple") (fun xs H Q => ∃ d kvs, xs = [V.ref d] ∧ Rd H d (.dT kvs) ∧ ∀ p bs, H p = none → IsKeys H kvs bs → Q (.ref p) (L2.upd H p (.tup (bs.map V.ref)))) := by
  intro pins s σ H xs us Q I r h
  obtain ⟨d, kvs, rfl, hd, q⟩ := h
  obtain ⟨u, rfl, rx⟩ := r.one
  cases rx
  obtain ⟨z, hs, ks, pr, o, es, ep, ho, hx, hdt, he, _⟩ := (show ObjOk X.prog X.w H s.heap d (.dT kvs) from hd.ok I.hok)
  have l1 : es.size = ks.length := size_of_entries he
  have l2 : kvs.length = ks.length := Paired.length pr
  refine call_tupK (kdl_raw hs hx hdt) (I.ok.hd hc) ho (by omega) fun h' tk acc kp it => ?_
  have al : acc.toList.length = ks.length := by rw [Array.length_toList, it.1]; exact l1
  have ea : acc.toList = (ks.map fun x => x.2.1).map Value.ref := List.ext_getElem? fun j => by
    rw [List.getElem?_map, List.getElem?_map]
    have qe := entry_at he j
    by_cases hj : j < ks.length
    · have hv : acc.toList[j]? = some (acc.toList[j]'(by omega)) := List.getElem?_eq_getElem _
      obtain ⟨en, hen, hk⟩ := it.2 j _ (by rw [← Array.getElem?_toList]; exact hv)
      rw [List.getElem?_eq_getElem hj] at qe ⊢
      rw [hen] at qe
      have e2 := Option.some.inj qe
      rw [hv, hk, e2]
      rfl
    · rw [List.getElem?_eq_none (by omega), List.getElem?_eq_none (by omega)]
      rfl
  have rv : Vals ((ks.map fun x => x.2.1).map V.ref) acc.toList := by rw [ea]; exact vals_refs _
  have hz : ((ks.map fun x => x.2.1).map V.ref).length ≤ sizeLine := by rw [List.length_map, List.length_map]; omega
  have I2 : Inv X pins σ H { s with heap := h', toks := tk } := I.kept kp
  refine ⟨.ref h'.objs.size, L2.upd H h'.objs.size (.tup ((ks.map fun x => x.2.1).map V.ref)), I2.laid (t' := tk) (fun c o e => Heap.get?_push_of_some _ e) (Nat.le_refl _) (show ObjOk X.prog X.w _ _ _ (.tup ((ks.map fun x => x.2.1).map V.ref)) from ⟨hz, acc.toList, rv, ?_⟩), rfl, q _ _ (I2.hok.fresh (Nat.le_refl _)) (isKeys_of pr)⟩
  rw [Array.toArray_toList]
  exact IsTup.new _ _
end
/-! ### tuples that stand in the heap may be known to all -/
theorem frz1 {K : PySem.W.Frag} {w : Wit} {H : Hp} {S : Sto} (g : Gd K w H S) {b : Addr} {vs : List V} (h : H b = some (.tup vs)) : ∃ w', Ext w H w' H ∧ Gd K w' H S ∧ w'.F b = some (.tup vs) := by
  cases e : w.F b with
  | some o =>
    have := g.sub b o e
    rw [h] at this
    cases this
    exact ⟨w, .refl w H, g, e⟩
  | none =>
    have hp : ∀ n, n < w.m → w.phi n ≠ b := fun n hn q => by
      rw [g.len] at hn
      obtain ⟨u, hu, nt⟩ := (g.sto n _ (List.getElem?_eq_getElem hn)).nt
      rw [q, h] at hu
      cases hu
      exact nt _ #[] (.inl rfl)
    refine ⟨w.fix H b, ⟨Le.fix e, fun n h1 h2 => absurd h2 (Nat.not_lt.mpr h1), fun _ _ z => .inr z, fun _ z => z, fun a ha k => ⟨?_, ha⟩⟩, g.fix e hp (fun ps z => by rw [h] at z; cases z), ?_⟩
    · unfold Wit.fix; simp only
      rw [if_neg (fun q : a = b => by
        obtain ⟨u, hu, nt⟩ := ha
        rw [q, h] at hu
        cases hu
        exact nt _ #[] (.inl rfl))]
      exact k
    · unfold Wit.fix; simp [h]
theorem frzs {K : PySem.W.Frag} {H : Hp} {S : Sto} : ∀ (bs : List Addr) {w : Wit}, Gd K w H S → (∀ b ∈ bs, ∃ vs, H b = some (.tup vs)) → ∃ w', Ext w H w' H ∧ Gd K w' H S ∧ ∀ b ∈ bs, ∀ vs, H b = some (.tup vs) → w'.F b = some (.tup vs)
  | [], w, g, _ => ⟨w, .refl w H, g, fun b hb => by cases hb⟩
  | b :: bs, w, g, h => by
    obtain ⟨vs, hv⟩ := h b List.mem_cons_self
    obtain ⟨w1, x1, g1, f1'⟩ := frz1 g hv
    obtain ⟨w2, x2, g2, f2'⟩ := frzs bs g1 fun c hc => h c (List.mem_cons_of_mem _ hc)
    refine ⟨w2, x1.trans x2, g2, fun c hc ws hw => ?_⟩
    rcases List.mem_cons.mp hc with rfl | hc
    · rw [hv] at hw
      cases hw
      exact x2.le.F _ _ f1'
    · exact f2' c hc ws hw
theorem reps_keys {K : PySem.W.Frag} {w : Wit} : ∀ k : List L2.Key, Reps K w (k.map kD) (k.map kV)
  | [] => .nil
  | k :: r => .cons (rep_key k) (reps_keys r)
theorem keysT {K : PySem.W.Frag} {w w' : Wit} {H : Hp} : ∀ {ds : List (D × D)} {kvs : List (List L2.Key × V)} {bs : List Addr}, RepT K w ds kvs → IsKeys H kvs bs → (∀ b ∈ bs, ∀ vs, H b = some (.tup vs) → w'.F b = some (.tup vs)) → Reps K w' (ds.map (·.1)) (bs.map V.ref)
  | [], _, _, .nil, hk, _ => by
    cases hk
    exact .nil
  | _ :: ds, _ :: kvs, _, .cons h t, hk, f => by
    cases hk with
    | cons hb tb => exact .cons (.tup (f _ List.mem_cons_self _ hb) (reps_keys _)) (keysT t tb fun b hb => f b (List.mem_cons_of_mem _ hb))
theorem isKeys_tup {H : Hp} {kvs : List (List L2.Key × V)} {bs : List Addr} (hk : IsKeys H kvs bs) : ∀ b ∈ bs, ∃ vs, H b = some (.tup vs) := by
  unfold IsKeys at hk
  induction hk with
  | nil => intro b hb; cases hb
  | cons h t ih =>
    intro b hb
    rcases List.mem_cons.mp hb with rfl | hb
    · exact ⟨_, h⟩
    · exact ih b hb
theorem cr_tupT {X : Cx} (hc : X.calm = true) : CallR X (.type "tuple") (rN X.K .e (f1 tupT)) := by
  refine call1 fun pins s σ H x u Q w S d d' I r g v e q => ?_
  have rv : Vals [x] [u] := .cons r .nil
  cases v with
  | @lst a vs ds h rr => cases e; exact call_tuple_of pins s σ H [_] [u] Q I rv ⟨_, _, rfl, .inl ⟨h, fun p np => q _ _ (w.new p (.tup vs)) (Ext.newF g np) (g.new np) (.tup upd_same (rr.mono (Le.new (g.noneF np))))⟩⟩
  | tup h rr => cases e; exact call_tuple_of pins s σ H [_] [u] Q I rv ⟨_, _, rfl, .inr ⟨SqT.of (g.sub _ _ h), q _ H w (.refl _ _) g (.tup h rr)⟩⟩
  | ctp h rr => cases e; exact call_tuple_of pins s σ H [_] [u] Q I rv ⟨_, _, rfl, .inr ⟨SqT.monoF none_le h, q _ H w (.refl _ _) g (.ctp h rr)⟩⟩
  | dT h rr =>
    cases e
    refine call_tuple_dT hc pins s σ H [_] [u] Q I rv ⟨_, _, rfl, .inl h, fun p bs np hk => ?_⟩
    obtain ⟨w1, x1, g1, f1'⟩ := frzs bs g (isKeys_tup hk)
    have rp := keysT (w' := w1) rr hk f1'
    exact q _ _ (w1.new p (.tup (bs.map V.ref))) (x1.trans (Ext.newF g1 np)) (g1.new np) (.tup upd_same (rp.mono (Le.new (g1.noneF np))))
  | _ => cases e
end DL

/-! raise X(), X an own exception class without own __init__ -/
namespace DL
open PySem PySem.Spec PyProof.Rows L2
section
variable {X : Cx}
theorem pmk_own0 {C : Addr} {bmB : List Value} {B newId initId : String} {x : Str} {p pos : Pos} (F : ExcBaseFacts B newId initId bmB) (q : PySem.W.excIn X.K C bmB newId = true) (gC : X.mg x = some (.ref C))
    (kC : PySem.W.keepIn X.K (.ref C) = true) (r : Raises X (.ref C)) (hg : Gl X x) (hdb : (x == ("__debug__" : Str)) = false := by decide) :
    PMk X (.Call (.Name x p) [] [] pos) (fun _ H Q => Q (.ref C) none H) := by
  intro pins s σ H Q I h
  refine wpAny_Call_Name_kw (ld_glob I hg gC ?_ hdb)
  refine PySem.W.callWith_K0 I.kIn kC ?_
  show wpAny _ _ (call (.ref C) []) _ _ _
  obtain ⟨bm, N, nm, qn, bs, hdct, sn, sub, ab, col, dd, k0, k1, k2, k3, k5, mN, hC, hN, hni, T⟩ := exc_obj I.kIn q
  exact wpAny_call_exc_subT F T hC hN hni (fun h' e hm => mk_of I hm r h (I.hok.gone hm.new)) (by decide)
end
section
variable {X : Cx} {W : WZ} {L : Lp} {O O' : List Nat} {x : Str} {p pos pos' : Pos}
theorem ds_raise0 (h : ex0B X.K (He.ga X.K x) = true) (hm : X.mg x = some (.ref (He.ga X.K x))) (tk : Takes X W.wx) (hc : X.calm = true := by rfl) (hg : Gl X x := by rfl) (hdb : (x == ("__debug__" : Str)) = false := by decide) :
    DS X W L O (.Raise (some (.Call (.Name x p) [] [] pos)) none pos') O' (sRaise0 x) := by
  unfold ex0B at h
  obtain ⟨h1, h⟩ := Bool.and_eq_true_iff.mp h
  obtain ⟨h2, h⟩ := Bool.and_eq_true_iff.mp h
  obtain ⟨h3, h4⟩ := Bool.and_eq_true_iff.mp h
  refine ⟨(ps_raise hc tk (pmk_own0 PySem.F.excBase_ValueError h1 hm h2 (raises_own (of_decide_eq_true h3) (of_decide_eq_true h4)) hg hdb)).imp ?_⟩
  rintro En σ H ⟨ent, w, ρ, S, r, p⟩
  obtain ⟨w3, l3, r3⟩ := r.weak [] (by simp)
  exact p w3 _ σ _ _ r3 ⟨x, [], rfl, rfl, .inl ⟨rfl, rfl⟩⟩
end
end DL

/-! sorted(d.items()), d a dict by texts or whole numbers -/
namespace DL
open PySem PySem.Spec PyProof.Rows L2
/-! ### what is read off a heap lies in it -/
/-! ### many new things, known to all -/
section
variable {K : PySem.W.Frag} {w : Wit} {H H' : Hp} {S : Sto} {L : List Addr}
end
/-! ### the pairs of a dict in order -/
theorem each_all {α β : Type} {R R' : α → β → Prop} : ∀ {as : List α} {bs : List β}, PySem.W.EachIs R as bs → (∀ a b, b ∈ bs → R a b → R' a b) → PySem.W.EachIs R' as bs
  | _, _, .nil, _ => .nil
  | _, _, .cons h t, k => .cons (k _ _ List.mem_cons_self h) (each_all t fun a b hb => k a b (List.mem_cons_of_mem _ hb))
section
variable {X : Cx}
end
section
variable {X : Cx} {W : WZ} {O : List Nat} {o : Expr} {fo : EF} {ka : Kd} {p pos apos cpos : Pos}
end
end DL

/-! sorted(t), t a tuple -/
namespace DL
open PySem PySem.Spec PyProof.Rows L2
section
variable {X : Cx}
end
end DL

/-! a new list from a call becomes an object of the store; x.append(e) of such -/
namespace DL
open PySem PySem.Spec PyProof.Rows L2
section
variable {K : PySem.W.Frag} {w w1 : Wit} {H H1 : Hp} {S : Sto} {a : Addr} {ds : List D}
end
section
variable {X : Cx} {W : WZ} {L : Lp} {O : List Nat} {e : Expr} {fe : EF} {x : Str} {p pos pos' apos cpos : Pos}
end
end DL

set_option maxHeartbeats 4000000
/-! set(xs), xs a list of texts: len(set(xs)), sorted(set(xs)) -/
namespace DL
open PySem PySem.Spec PyProof.Rows L2 PySem.Froz
/-- the set at a holds the texts l, each once -/
def SX (P : Program) (w : World) (h : Heap) (a : Addr) (l : List Str) : Prop := ∃ D : SD, h.get? a = some (sObj "set" D) ∧ TxOk P w D l ∧ Ris D.2.2.place.toList ∧ (w.params.followText "set-order" = true ∨ D.2.2.led = true) ∧ l.Nodup
theorem SX.keep {P : Program} {w : World} {h h' : Heap} {a : Addr} {l : List Str} (x : SX P w h a l) (k : ∀ o, h.get? a = some o → h'.get? a = some o) : SX P w h' a l := let ⟨D, e, r⟩ := x; ⟨D, k _ e, r⟩
theorem addTx_ris {h : Int} {v : Value} {D : SD} (r : Ris D.2.2.place.toList) : Ris (addTx h v D).2.2.place.toList ∧ (addTx h v D).2.2.led = D.2.2.led := by
  have r1 := layNew_ris D.2.2 D.1 h v r
  have l1 := layNew_led D.2.2 D.1 h v
  unfold addTx
  generalize layNew D.2.2 D.1 h v = L at r1 l1 ⊢
  have p2 : ∀ t : SetTable, ((if t.plain = true then { t with plain := false } else t).place = t.place) ∧ ((if t.plain = true then { t with plain := false } else t).led = t.led) := fun t => by split <;> exact ⟨rfl, rfl⟩
  obtain ⟨q1, q2⟩ := p2 L.2.1
  generalize (if L.2.1.plain = true then { L.2.1 with plain := false } else L.2.1) = t2 at q1 q2 ⊢
  unfold tailTx
  split
  · exact ⟨relayAll_ris t2 L.1 _, (relayAll_led t2 L.1 _).trans (q2.trans l1)⟩
  · exact ⟨by show Ris t2.place.toList; rw [q1]; exact r1, q2.trans l1⟩
section
variable {P : Program} {w : World} {A : Around} {E : Value → Shared → Prop} {s : Shared} {a : Addr} {l : List Str}
/-- a text that is there already -/
theorem add_here {D : SD} {k : Str} {u : Tok} {Q : Bool → Shared → Prop} (ho : s.heap.get? a = some (sObj "set" D)) (F : TxOk P w D l) (hk : k ∈ l) (hb : l.length < scanBound) (h : Q false s) :
    wpAny (model P w) A (setAddHashed a (.str k u) (hashStr w k)) Q E s := by
  obtain ⟨es, ep, t⟩ := D
  obtain ⟨j, hj⟩ : ∃ j, List.findIdx? (fun e => (strKind P w).is k e.2) es.toList = some j := by
    obtain ⟨e, he, q⟩ := (F.mem k).mp hk
    cases hr : List.findIdx? (fun e => (strKind P w).is k e.2) es.toList with
    | some j => exact ⟨j, rfl⟩
    | none =>
      have := List.findIdx?_eq_none_iff.mp hr e he
      rw [q] at this; cases this
  have sz : es.size < scanBound := by have : es.size = l.length := F.sz; omega
  unfold setAddHashed setAddHashedIn
  refine wpAny_holding (wpAny_bind (wpAny_setState_of (o := sObj "set" (es, ep, t)) ho rfl F.fit ?_))
  dsimp only
  rw [byScan_of (knd := strKind P w) rfl sz F.el]
  simp only [↓reduceIte]
  unfold setAddByScan
  refine wpAny_bind (wpAny_bind (wpAny_rule (wpAny_bind (wpAny_setScan_of (knd := strKind P w) (k := k) (is_str k u) ho rfl F.fit F.el ?_))))
  rw [hj]
  exact wpAny_pure (wpAny_pure h)
theorem sx_add {k : Str} {u : Tok} {Q : Bool → Shared → Prop} (R : SX P w s.heap a l) (hb : l.length + 1 < scanBound)
    (hQ : ∀ (b : Bool) (h' : Heap), Heap.SameBut a s.heap h' → SX P w h' a (if k ∈ l then l else k :: l) → Q b { s with heap := h' }) : wpAny (model P w) A (setAddHashed a (.str k u) (hashStr w k)) Q E s := by
  obtain ⟨D, ho, F, ri, le, nd⟩ := R
  by_cases hk : k ∈ l
  · rw [if_pos hk] at hQ
    exact add_here ho F hk (by omega) (hQ false s.heap (Heap.SameBut.refl a s.heap) ⟨D, ho, F, ri, le, nd⟩)
  · rw [if_neg hk] at hQ
    obtain ⟨r1, r2⟩ := addTx_ris (h := hashStr w k) (v := .str k u) ri
    refine add_x ho F hk hb (hQ true _ (Heap.SameBut.update s.heap a _) ⟨_, get_upd _ ho rfl, add_ok u F, r1, le.imp id fun z => by rw [r2]; exact z, List.nodup_cons.mpr ⟨hk, nd⟩⟩)
end
theorem metS_snoc (x : Str) : ∀ (xs l : List Str), metS l (xs ++ [x]) = if x ∈ metS l xs then metS l xs else x :: metS l xs
  | [], l => rfl
  | y :: xs, l => metS_snoc x xs _
theorem metS_len : ∀ (xs l : List Str), (metS l xs).length ≤ l.length + xs.length
  | [], l => by simp [metS]
  | x :: xs, l => by
    unfold metS
    have := metS_len xs (if x ∈ l then l else x :: l)
    have h2 : (if x ∈ l then l else x :: l).length ≤ l.length + 1 := by split <;> simp
    simp only [List.length_cons]
    omega
section
variable {P : Program} {w : World} {A : Around} {I : Addr} {fp wr : List Addr} {G : Array GenState → Array GenState → Prop} {n : Nat} {Pv : Nat → Value → Prop} {St : Nat → Shared → Prop}
/-- the loop of set(xs) -/
theorem sx_loop (W : WalksS P w A.in1 I fp wr G n Pv St) (a : Addr) (hf : a ∉ fp) (xs : List Str) (hn : xs.length = n) (h1 : n < 1000) (hv : ∀ i v, Pv i v → ∃ t, v = .str (xs.getD i Str.empty) t) {R : Result → Shared → Prop} :
    ∀ (m i : Nat) (s : Shared), i + m = n → St i s → SX P w s.heap a (metS [] (xs.take i)) → (∀ s', Moved (a :: wr) G s s' → SX P w s'.heap a (metS [] xs) → R (.ok (.ret .none)) s') →
      codeAny (model P w) A (.builtin "set.update.loop" ⟨[.ref a, .ref I], []⟩) R s := by
  have nw : a ∉ wr := fun h => hf (W.sub _ h)
  intro m
  induction m with
  | zero =>
    intro i s e st sx k
    have e : i = n := by omega
    subst e
    refine codeAny_builtin PyProof.Rows.F.entry_set_update_loop ?_
    rw [Around.under_plainId PyProof.Rows.F.plain_set_update_loop _]
    refine wpAny_bind (m := pyNext (.ref I)) (W.done s _ _ st fun s1 mv => ?_)
    rw [List.take_of_length_le (by omega)] at sx
    exact wpAny_pure (k s1 (mv.mono fun b hb => List.mem_cons_of_mem _ hb) (sx.keep fun o e => mv.heap a o nw e))
  | succ m ih =>
    intro i s e st sx k
    have lt : i < n := by omega
    refine codeAny_builtin PyProof.Rows.F.entry_set_update_loop ?_
    rw [Around.under_plainId PyProof.Rows.F.plain_set_update_loop _]
    refine wpAny_bind (m := pyNext (.ref I)) (W.item i s _ _ lt st fun v s1 pv st1 mv => ?_)
    obtain ⟨t, rfl⟩ := hv i v pv
    have sx1 := sx.keep fun o e => mv.heap a o nw e
    have ml := metS_len (xs.take i) []
    rw [List.length_take] at ml
    have tk : xs.take (i + 1) = xs.take i ++ [xs.getD i Str.empty] := by
      have : i < xs.length := by omega
      rw [List.take_add_one, List.getD_eq_getElem?_getD, List.getElem?_eq_getElem this]; rfl
    refine wpAny_bind (m := holding [Value.str (xs.getD i Str.empty) t] (setAdd a (.str (xs.getD i Str.empty) t))) (wpAny_holding ?_)
    unfold setAdd
    refine wpAny_holding (wpAny_bind ((strKind P w).pyHash (k := xs.getD i Str.empty) (is_str _ _) (sx_add (s := { s1 with toks := s1.toks + 1 }) sx1 (by unfold scanBound; simp at ml; omega) fun b h' sb sx2 => ?_)))
    rw [← metS_snoc, ← tk] at sx2
    refine wpAny_pure ⟨plainId_quiet PyProof.Rows.F.plain_set_update_loop _, ih (i + 1) _ (by omega) (W.frame _ s1 _ _ st1 (Nat.le_succ _) fun b hb o e => ?_) sx2 fun s2 mv2 sx3 => ?_⟩
    · exact (sb.2 b fun z => hf (z ▸ hb)).trans e
    · refine k s2 (Moved.trans W.gtrans ((mv.mono fun b hb => List.mem_cons_of_mem _ hb).then_heap (Nat.le_succ _) fun b o hb e => ?_) mv2) sx3
      exact (sb.2 b fun z => hb (by rw [z]; exact List.mem_cons_self)).trans e
end
section
variable {P : Program} {w : World} {A : Around} {E : Value → Shared → Prop} {s : Shared}
/-- T(args): the check of __init__'s arguments is told by a run -/
theorem callType_run {T nw ini : String} {Bi : Builtin} {args : List Value} {Q Q1 : Value → Shared → Prop} (ft : TypeCalled T nw ini) (hct : checkTypeCall T ⟨args, []⟩ = pure ()) (ei : entryFor table ini = some Bi)
    (hn : codeAny (model P w) A.in1 (.call (.builtin nw) ⟨.type T :: args, []⟩) (wants Q1 E) s)
    (hx : ∀ o s1, Q1 o s1 → s1.TypeIs o T ∧ (∀ (A' : Around) (Q' : Unit → Shared → Prop) (E' : Value → Shared → Prop), Q' () s1 → wpAny (model P w) A' (checkBuiltinCall ini ⟨o :: args, []⟩) Q' E' s1) ∧
      wpAny (model P w) A.in1.in1 (Bi ⟨o :: args, []⟩) (fun f s2 => ∃ v, f = .done (.ret v) ∧ v = .none ∧ Q o s2) E s1) : wpAny (model P w) A (call (.type T) args) Q E s := by
  obtain ⟨c0, c1, c2⟩ := ft.mro
  have t1 := ft.notType; have t2 := ft.canCreate; have t3 := ft.made; have t4 := ft.sub
  refine wpAny_call (codeAny_of_tree (show wpAny _ _ (callAny (.type T) _) _ _ _ from wpAny_pure ⟨Code.quiet_builtin _ (by decide +kernel), codeAny_builtin PySem.F.entry_type_call ?_⟩))
  rw [Around.under_plain (weight_type_call_type T args []) rfl]
  repeat (any_goals (first | assumption | wp_step))
  refine codeAny_mono hn fun r s1 q => ?_
  match r, q with
  | .ok (.ret o), q =>
    obtain ⟨ty, ck, bd⟩ := hx o s1 q
    have u1 := ft.init.lookup; have u2 := ft.init.bind o
    repeat (any_goals (first | assumption | wp_step))
    refine codeAny_mono (codeAny_call_builtin (R := wants (fun r s2 => r = .none ∧ Q o s2) E) ft.init.plain ei (ck _ _ _ (wpAny_mono bd (fun f s2 ⟨v, e1, e2, e3⟩ => by subst e1 e2; exact ⟨rfl, e3⟩) fun _ _ z => z))) fun r2 s2 q2 => ?_
    match r2, q2 with
    | .ok (.ret v), ⟨e, q3⟩ =>
      subst e
      repeat (any_goals (first | assumption | wp_step))
    | .ok .next, z => exact z.elim
    | .ok .brk, z => exact z.elim
    | .ok .cont, z => exact z.elim
    | .error _, z => exact z
  | .ok .next, z => exact z.elim
  | .ok .brk, z => exact z.elim
  | .ok .cont, z => exact z.elim
  | .error _, z => exact z
/-- set(xs) -/
theorem call_setX {b : Addr} {its : Array Value} {xs : List Str} {Q : Value → Shared → Prop} (hh : A.handled = none) (hl : s.heap.IsList b its) (hi : StrsAre its.toList xs) (h1 : xs.length < 1000)
    (h : ∀ (h' : Heap) (tk : Nat), SX P w h' s.heap.objs.size (metS [] xs) → (∀ c o, s.heap.get? c = some o → h'.get? c = some o) → Q (.ref s.heap.objs.size) { s with heap := h', toks := tk }) :
    wpAny (model P w) A (call (.type "set") [.ref b]) Q E s := by
  refine callType_run (Q1 := fun obj s1 => obj = .ref s.heap.objs.size ∧ s1 = { s with heap := s.heap.push { cls := .type "set", dict := none, data := .set #[] 0 (.fresh 0 0 (!w.params.followText "set-order")) } }) PySem.F.called_set (PySem.F.typeCall_set_1 _) PySem.F.entry_set_init (code_set_led1 _ ⟨rfl, rfl⟩) fun obj s1 q => ?_
  obtain ⟨rfl, rfl⟩ := q
  generalize hO : ({ cls := .type "set", dict := none, data := .set #[] 0 (.fresh 0 0 (!w.params.followText "set-order")) } : Obj) = O0
  have at0 : (s.heap.push O0).get? s.heap.objs.size = some O0 := Heap.get?_push_size _ (by rw [← hO]; rfl)
  have ty : Shared.TypeIs { s with heap := s.heap.push O0 } (.ref s.heap.objs.size) "set" := ⟨O0, at0, by rw [← hO]⟩
  refine ⟨ty, fun A' Q' E' q => check_set_init_1 ty q, ?_⟩
  obtain ⟨⟨lc, ld, ldt, ls⟩, e1, e2, k, e3⟩ := hl
  simp only at e2 e3
  subst e2 e3
  have e1' : (s.heap.push O0).get? b = some { cls := .type "list", dict := ld, data := .seq its k, slots := ls } := Heap.get?_push_of_some _ e1
  have isl : (s.heap.push O0).IsList b its := ⟨_, e1', rfl, k, rfl⟩
  have blt : b < s.heap.objs.size := Heap.lt_size e1
  have sz1 : (s.heap.push O0).objs.size = s.heap.objs.size + 1 := Heap.size_push ..
  have ni : b ≠ (s.heap.push O0).objs.size := fun z => absurd blt (by rw [z, sz1]; exact Nat.not_lt_of_le (Nat.le_succ _))
  have nf : s.heap.objs.size ∉ [(s.heap.push O0).objs.size, b] := by
    rw [sz1]
    simp only [List.mem_cons, List.not_mem_nil, or_false, not_or]
    exact ⟨Nat.ne_of_lt (Nat.lt_succ_self _), Nat.ne_of_gt blt⟩
  subst hO
  have f1 := PySem.F.sub_list_set; have f2 := PySem.F.sub_list_frozenset
  have f3 : (Value.type "list" == Value.type "dict") = false := by decide
  unfold Builtin.«set.__init__» noKeywords Builtin.Frozenset.updateFrom
  generalize hp : pyIter = PI
  wp_walk
  subst hp
  refine wpAny_pyIter_list isl ?_
  refine wpAny_bind (m := runValue _) (wpAny_runValue ?_)
  have hn : xs.length = its.size := by rw [← Array.length_toList, ← StrsAre.len_eq hi]
  refine sx_loop ((Walks.list (by simp [hh]) _ b ni its).toS) s.heap.objs.size nf xs hn (by omega) (fun i v e => SS.strs_at hi i v (by rw [Array.getElem?_toList]; exact e)) its.size 0 _ (by omega) ⟨⟨_, Heap.get?_push_size _ rfl, rfl, rfl⟩, isl.push _⟩ ?_ fun s' mv sx => ?_
  · refine ⟨(#[], 0, .fresh 0 0 (!w.params.followText "set-order")), ?_, TxOk.nil rfl, List.Pairwise.nil, ?_, List.nodup_nil⟩
    · exact Heap.get?_push_of_some _ (Heap.get?_push_size _ rfl)
    · show _ ∨ (!w.params.followText "set-order") = true
      cases w.params.followText "set-order"
      · exact .inr rfl
      · exact .inl rfl
  · obtain ⟨h', g', d', tk', os'⟩ := s'
    obtain rfl : g' = s.gens := mv.gens
    obtain rfl : d' = s.drawn := mv.drawn
    obtain rfl : os' = s.os := mv.os
    refine wpAny_pure (wpAny_pure ⟨_, rfl, rfl, h h' tk' sx fun c o e => ?_⟩)
    have hc : c < s.heap.objs.size := Heap.lt_size e
    refine mv.heap c o (fun z => ?_) (Heap.get?_push_of_some _ (Heap.get?_push_of_some _ e))
    simp only [List.mem_cons, List.not_mem_nil, or_false] at z
    rcases z with z | z
    · exact absurd hc (by rw [z]; exact Nat.lt_irrefl _)
    · rw [sz1] at z
      exact absurd hc (by rw [z]; exact Nat.not_lt_of_le (Nat.le_succ _))
end
end DL

set_option maxHeartbeats 4000000
/-! len(set(xs)), sorted(set(xs)), xs a list of texts -/
namespace DL
open PySem PySem.Spec PyProof.Rows L2 PySem.Froz
/-! ### the order of texts -/
def srtS (l : List Str) : List Str := l.mergeSort leS
theorem leS_total : PySem.W.TotalLe leS := PySem.W.sortLe_total (PyProof.Rows.listOrd PyProof.Rows.itemOrd) false fun x : Str => PySem.W.keyToks (.str x)
theorem leS_anti {a b : Str} (h1 : leS a b = true) (h2 : leS b a = true) : a = b := by
  have k1 : (PyProof.Rows.listOrd PyProof.Rows.itemOrd).blt (PySem.W.keyToks (.str b)) (PySem.W.keyToks (.str a)) = false := by
    have : (!(PyProof.Rows.listOrd PyProof.Rows.itemOrd).blt (PySem.W.keyToks (.str b)) (PySem.W.keyToks (.str a))) = true := h1
    simpa using this
  have k2 : (PyProof.Rows.listOrd PyProof.Rows.itemOrd).blt (PySem.W.keyToks (.str a)) (PySem.W.keyToks (.str b)) = false := by
    have : (!(PyProof.Rows.listOrd PyProof.Rows.itemOrd).blt (PySem.W.keyToks (.str a)) (PySem.W.keyToks (.str b))) = true := h2
    simpa using this
  have e := (PyProof.Rows.listOrd PyProof.Rows.itemOrd).total _ _ k1 k2
  have e' : a.cps = b.cps := by
    first
    | (have := e; simp [PySem.W.keyToks] at this; exact this)
    | (have := e.symm; simp [PySem.W.keyToks] at this; exact this)
  obtain ⟨x⟩ := a
  obtain ⟨y⟩ := b
  congr 1
theorem perm_sub {α : Type} [DecidableEq α] : ∀ {l b : List α}, l.Nodup → (∀ x ∈ l, x ∈ b) → b.length = l.length → b.Perm l
  | [], b, _, _, h => by rw [List.length_eq_zero_iff.mp h]
  | x :: l, b, nd, hs, h => by
    rw [List.nodup_cons] at nd
    have hx : x ∈ b := hs x List.mem_cons_self
    have p1 : b.Perm (x :: b.erase x) := List.perm_cons_erase hx
    refine p1.trans (.cons x (perm_sub nd.2 (fun y hy => ?_) (by have := p1.length_eq; simp only [List.length_cons] at this h; omega)))
    have hne : y ≠ x := fun z => nd.1 (z ▸ hy)
    exact (List.mem_erase_of_ne hne).mpr (hs y (List.mem_cons_of_mem _ hy))
theorem out_texts : ∀ {out : List Value}, (∀ v ∈ out, ∃ k u, v = Value.str k u) → ∃ bs : List Str, PySem.W.EachIs (fun v (b : Str) => ∃ t, v = Value.str b t) out bs
  | [], _ => ⟨[], .nil⟩
  | v :: out, h => by
    obtain ⟨k, u, e⟩ := h v List.mem_cons_self
    obtain ⟨bs, hb⟩ := out_texts fun v hv => h v (List.mem_cons_of_mem _ hv)
    exact ⟨k :: bs, .cons ⟨u, e⟩ hb⟩
theorem each_mem {α β : Type} {R : α → β → Prop} : ∀ {as : List α} {bs : List β}, PySem.W.EachIs R as bs → ∀ a ∈ as, ∃ b ∈ bs, R a b
  | _, _, .nil, _, h => by cases h
  | _, _, .cons h t, a, ha => by
    rcases List.mem_cons.mp ha with rfl | ha
    · exact ⟨_, List.mem_cons_self, h⟩
    · obtain ⟨b, hb, r⟩ := each_mem t a ha
      exact ⟨b, List.mem_cons_of_mem _ hb, r⟩
theorem uniq_anti {α : Type} {le : α → α → Bool} (anti : ∀ a b, le a b = true → le b a = true → a = b) : ∀ {M N : List α}, M.Perm N → M.Pairwise (fun a b => le a b = true) → N.Pairwise (fun a b => le a b = true) → M = N
  | [], N, p, _, _ => (List.nil_perm.mp p).symm
  | a :: M, [], p, _, _ => by have := p.length_eq; simp at this
  | a :: M, b :: N, p, hm, hn => by
    rw [List.pairwise_cons] at hm hn
    have ab : a = b := by
      have h1 : a ∈ b :: N := p.mem_iff.mp List.mem_cons_self
      have h2 : b ∈ a :: M := p.mem_iff.mpr List.mem_cons_self
      rcases List.mem_cons.mp h1 with e | h1
      · exact e
      · rcases List.mem_cons.mp h2 with e | h2
        · exact e.symm
        · exact anti a b (hm.1 b h2) (hn.1 a h1)
    subst ab
    rw [uniq_anti anti (List.Perm.cons_inv p) hm.2 hn.2]
theorem srtS_sorted (l : List Str) : (srtS l).Pairwise fun a b => leS a b = true := List.pairwise_mergeSort leS_total.trans (fun a b => Bool.or_eq_true_iff.mpr (leS_total.total a b)) l
theorem srtS_perm {l m : List Str} (p : l.Perm m) : srtS l = srtS m := uniq_anti (fun _ _ => leS_anti) ((List.mergeSort_perm l _).trans (p.trans (List.mergeSort_perm m _).symm)) (srtS_sorted l) (srtS_sorted m)
/-! ### sets tracked -/
def SetXO (P : Program) (w : World) (a : Addr) (l : List Str) : HO := .ext fun h => SX P w h a l
theorem setXO_ok {P : Program} {w : World} {H : Hp} {h : Heap} {a : Addr} {l : List Str} (x : SX P w h a l) : ObjOk P w H h a (SetXO P w a l) :=
  ⟨x, let ⟨_, e, _⟩ := x; ⟨_, e⟩, fun _ _ x k => x.keep k⟩
section
variable {X : Cx}
def rLenX (P : Program) (w : World) : List V → Hp → VK → Prop := fun vs H Q => ∃ (p : Addr) (l : List Str), vs = [.ref p] ∧ H p = some (SetXO P w p l) ∧ l.length < 1000 ∧ Q (.int l.length) H
theorem cr_lenX : CallR X (.builtin "len") (rLenX X.prog X.w) := by
  rintro pins s σ H vs us Q I r ⟨p, l, rfl, hp, hl, q⟩
  obtain rfl := Vals.ref1 r
  obtain ⟨D, ho, F, _⟩ : SX X.prog X.w s.heap p l := (I.hok p _ hp).1
  have sz : D.1.size = l.length := F.sz
  exact call_len_set ho ⟨rfl, rfl, rfl⟩ rfl F.fit (by rw [sz]; omega) ⟨.int l.length, H, I.tok _, ⟨_, by rw [sz]⟩, q⟩
def rSortX (P : Program) (w : World) : List V → Hp → VK → Prop := fun vs H Q => ∃ (p : Addr) (l : List Str), vs = [.ref p] ∧ H p = some (SetXO P w p l) ∧ l.length < 1000 ∧ ∀ q, H q = none → Q (.ref q) (upd H q (.lst ((srtS l).map V.str)))
theorem each_strs {w : World} : ∀ {out : List Value} {bs : List Str}, PySem.W.EachIs (fun v (b : Str) => ∃ t, v = Value.str b t) out bs → Vals (bs.map V.str) out
  | _, _, .nil => .nil
  | _, _, .cons h t => .cons h (each_strs (w := w) t)
theorem cr_sortX (hc : X.calm = true) (hu : X.A.units + 64 < cLine) : CallR X (.builtin "sorted") (rSortX X.prog X.w) := by
  rintro pins s σ H vs us Q I r ⟨p, l, rfl, hp, hl, q⟩
  obtain rfl := Vals.ref1 r
  obtain ⟨⟨es, ep, t⟩, ho, F, ri, le, nd⟩ : SX X.prog X.w s.heap p l := (I.hok p _ hp).1
  have sz : es.size = l.length := F.sz
  refine Calls.call_function_entry kind_sorted plain_sorted entry_sorted (args_sorted1 _) ?_
  unfold Builtin.«sorted»
  refine wpAny_bind (m := checkCount "sorted" 1 1 _) (wpAny_pure (wpAny_bind ?_))
  have sl : es.size < scanBound := by rw [sz]; unfold scanBound; omega
  refine collect_set (ep := ep) (I.ok.hd hc) ⟨_, ho, rfl, rfl⟩ F.fit sl ri le fun s1 out k1 hz1 g1 o1 pm => ?_
  -- the members are texts
  obtain ⟨bs, hb, pb⟩ : ∃ bs : List Str, PySem.W.EachIs (fun v (b : Str) => ∃ t, v = Value.str b t) out bs ∧ bs.Perm l := by
    have texts : ∀ v ∈ out, ∃ k u, v = Value.str k u := fun v hv => by
      obtain ⟨e, he, rfl⟩ := List.mem_map.mp (pm.mem_iff.mp hv)
      obtain ⟨⟨k, hk, _⟩, _⟩ := F.el e he
      obtain ⟨u, hu⟩ := Value.isStrOf_shape hk
      exact ⟨k, u, hu⟩
    obtain ⟨bs, hb⟩ := out_texts texts
    refine ⟨bs, hb, perm_sub nd (fun k hk => ?_) ?_⟩
    · obtain ⟨e, he, q⟩ := (F.mem k).mp hk
      obtain ⟨u, hu⟩ := Value.isStrOf_shape q
      have hv : e.2 ∈ out := pm.mem_iff.mpr (List.mem_map_of_mem he)
      obtain ⟨b, hb1, t', hb2⟩ := each_mem hb _ hv
      rw [hu] at hb2
      have hb2 : k = b := (Value.str.inj hb2).1
      exact hb2 ▸ hb1
    · have := hb.length
      have l1 := pm.length_eq
      rw [List.length_map, Array.length_toList] at l1
      have l1 : out.length = es.size := l1
      omega
  have ll : bs.length = l.length := pb.length_eq
  have lo1 := hb.length
  have szl : (1000 : Nat) ≤ sizeLine := by decide
  refine wpAny_bind (wpAny_newList ?_ (by show out.length ≤ sizeLine; omega))
  have hob : (s1.heap.push { cls := .type "list", data := .seq out.toArray }).get? s1.heap.objs.size = some (seqObj "list" out.toArray 0) := Heap.get?_push_size _ rfl
  refine wpAny_bind (wpAny_holding ?_)
  refine PySem.W.list_sort_data (bs := bs) (enc := fun b => PyData.str b) (R := fun v (b : Str) => ∃ t, v = Value.str b t) hob hb (each_all hb fun v b hb' ⟨t, ht⟩ => ?_) (PySem.W.AllAlike.of fun _ _ => rfl) ?_ (by omega) (fun b hb' => ?_) fun out2 hlo hout => ?_
  · subst ht; exact ⟨[], .str b t, fun z => by cases z⟩
  · refine .inr fun d hd => ?_
    obtain ⟨x, _, rfl⟩ := List.mem_map.mp hd
    exact ⟨by simp, by simp⟩
  · show X.A.units + 1 + 1 + (PyData.str b).depth < cLine
    have : (PyData.str b).depth ≤ 1 := by simp [PyData.depth]
    omega
  · have hs : bs.mergeSort (PySem.W.dataLe false fun b => PyData.str b) = srtS l := srtS_perm pb
    rw [hs] at hout
    have J : L2.Inv X pins σ H { s with heap := s1.heap, toks := s1.toks } := I.kept (t' := s1.toks) k1
    have I1 : L2.Inv X pins σ H s1 := ⟨J.ok, o1.trans J.os, by rw [g1]; exact J.bare, J.base, J.loc, J.cell, J.free, J.freeC, J.pin, J.hok, J.len⟩
    obtain ⟨e, he⟩ := PyProof.Rows.sortedHeap_at (vs := out) (out := out2.toArray) hob
    have low : ∀ b u, s1.heap.get? b = some u → (PyProof.Rows.sortedHeap (s1.heap.push { cls := .type "list", data := .seq out.toArray }) s1.heap.objs.size out out2.toArray).get? b = some u := fun b u eb => by
      have hb := Heap.lt_size eb
      have hb2 := Heap.lt_size (Heap.get?_push_of_some { cls := Value.type "list", data := Data.seq out.toArray } eb)
      rw [PyProof.Rows.sortedHeap_old (Nat.ne_of_lt hb) hb2]
      exact Heap.get?_push_of_some _ eb
    have I3 := I1.laid (t' := s1.toks) (a := s1.heap.objs.size) (o := .lst ((srtS l).map V.str)) low (Nat.le_refl _) ⟨by rw [List.length_map]; unfold srtS; rw [List.length_mergeSort]; omega, out2, e, each_strs (w := X.w) hout, he⟩
    exact wpAny_pure ⟨_, rfl, .ref _, _, I3, rfl, q _ (I.hok.fresh hz1)⟩
end
end DL

set_option maxHeartbeats 4000000
/-! len(set(xs)), sorted(set(xs)): the rules -/
namespace DL
open PySem PySem.Spec PyProof.Rows L2
theorem strs_rep {K : PySem.W.Frag} {w : Wit} : ∀ {ds : List D} {vs : List V} {l : List Str}, Reps K w ds vs → strsF ds = some l → vs = l.map V.str
  | _, _, _, .nil, e => by simp only [strsF, Option.some.injEq] at e; subst e; rfl
  | _, _, _, .cons (d := d) (v := v) (ds := ds) h t, e => by
    cases h with
    | str x =>
      simp only [strsF] at e
      cases e2 : strsF ds with
      | none => rw [e2] at e; cases e
      | some l2 =>
        rw [e2] at e
        cases e
        rw [strs_rep t e2]; rfl
    | _ => cases e
theorem strs_reps {K : PySem.W.Frag} {w : Wit} : ∀ l : List Str, Reps K w (l.map D.str) (l.map V.str)
  | [] => .nil
  | x :: l => .cons (.str x) (strs_reps l)
section
variable {X : Cx} {W : WZ} {O : List Nat} {o : Expr} {fo : EF} {ka : Kd} {p ps pos cpos : Pos}
end
end DL

set_option maxHeartbeats 4000000
/-! a lambda without parameters handed to a def that calls it in a try -/
namespace DL
open PySem PySem.Spec PyProof.Rows L2
def eLam (ft : Th → Th) (fe : EF) : EF := fun ρ S => match ft (fun S' => fe ρ S') S with
  | .ok d S1 => .ok d S1
  | _ => .stuck
/-- what the def makes of the lambda's reading -/
def TTd (K : PySem.W.Frag) (ft : Th → Th) : (XK → Hp → VK → Prop) → Hp → VK → Prop := fun tl H Q => ∃ (th : Th) (w : Wit) (S : Sto), Gd K w H S ∧
  (∀ (H' : Hp) (w' : Wit) (S' : Sto) (E : XK) (Q' : VK), Ext w H w' H' → Gd K w' H' S' → PostF K w' H' (th S') Q' E → tl E H' Q') ∧ PostF K w H (ft th S) Q (fun _ _ _ => False)
theorem Ext.tabs {K : PySem.W.Frag} {w : Wit} {H H1 : Hp} {S : Sto} (g : Gd K w H S) (e : LamX.ExtN H H1) : Ext w H w H1 where
  le := .refl w
  new := fun n h q => absurd q (Nat.not_lt.mpr h)
  keep := fun a o q => by
    by_cases z : ∃ ps, o = .tbl ps
    · exact .inl (.inr z)
    · exact .inr (e a o q fun ps zz => z ⟨ps, zz⟩)
  there := fun a h => by
    cases q : H a with
    | none => exact .inl rfl
    | some o =>
      by_cases z : ∃ ps, o = .tbl ps
      · obtain ⟨ps, rfl⟩ := z; exact .inr ⟨ps, rfl⟩
      · rw [e a o q fun ps zz => z ⟨ps, zz⟩] at h
        rcases h with h | ⟨ps, h⟩
        · cases h
        · exact absurd ⟨ps, Option.some.inj h⟩ z
  fz := fun a h k => ⟨k, by
    obtain ⟨u, e1, e2⟩ := h
    exact ⟨u, e a u e1 fun ps z => e2 [] ps (.inr z), e2⟩⟩
theorem Gd.tabs {K : PySem.W.Frag} {w : Wit} {H H1 : Hp} {S : Sto} (g : Gd K w H S) (e : LamX.ExtN H H1) (t : LamX.Tabs w.T H1) : Gd K w H1 S where
  len := g.len
  sub := fun a o q => e a o (g.sub a o q) fun ps z => g.tab.f a ps (z ▸ q)
  sto := fun n o q => (g.sto n o q).mono (.refl w) fun u hu => e _ u hu fun ps z => (g.sto n o q).notbl (z ▸ hu)
  inj := g.inj
  nofz := g.nofz
  tab := ⟨t, g.tab.f⟩
section
variable {X : Cx} {W : WZ} {O : List Nat} {fe : EF} {ft : Th → Th}
theorem lam_of {K : PySem.W.Frag} {T : List (Addr × Str)} (hT : ∃ z, W.xc = some z ∧ z.T = T) (h0 : T ≠ []) :
    ∀ σ H Q, rd K .e W O (eLam ft fe) σ H Q → LamX.tLam T (TTd K ft) (fun E => rd K .e (WE E) O fe) σ H Q := by
  rintro σ H Q ⟨ent, w, ρ, S, r, p⟩
  obtain ⟨z, ez, eT⟩ := hT
  have wT : w.T = T := by rw [← eT]; exact (r.thk z ez).2 (by rw [eT]; exact h0)
  refine ⟨wT ▸ r.gd.tab.t, fun H1 eN tN => ?_⟩
  have g1 : Gd K w H1 S := r.gd.tabs eN (by rw [wT]; exact tN)
  have x1 : Ext w H w H1 := Ext.tabs r.gd eN
  refine ⟨fun S' => fe ρ S', w, S, g1, fun H' w' S' E Q' x' g' p' => ?_, ?_⟩
  · refine ⟨(⟨ent.w, ent.H, ent.k⟩ : Ent none), w', ρ, S', R.leave (ent := (⟨ent.w, ent.H, ent.k⟩ : Ent none)) ((r.later x1 g1).later x' g') rfl rfl rfl, ?_⟩
    have p' : PostF K w' H' (fe ρ S') Q' E := p'
    cases e : fe ρ S' with
    | ok d S2 => rw [e] at p'; exact p'
    | exn x S2 => rw [e] at p'; exact p'
    | stuck => rw [e] at p'; exact p'
  · have p := Post.later x1 p
    unfold eLam at p
    cases e : ft (fun S' => fe ρ S') S with
    | ok d S2 => rw [e] at p; exact p
    | exn x S2 => rw [e] at p; exact p.elim
    | stuck => rw [e] at p; exact p.elim
end
/-! ### the def that got the lambda -/
/-- what of it is known in the def: its slot, its address, the state at the def's beginning -/
def xT (K : PySem.W.Frag) (f : Addr) (w : Wit) (H : Hp) : XC := ⟨0, f, .ref (He.ga K Str.empty), none, .ins Str.empty [], some (w, H), []⟩
def Wt (K : PySem.W.Frag) (f : Addr) (w : Wit) (H : Hp) : WZ := ⟨fun _ _ _ _ => False, some (xT K f w H), .e⟩
theorem R.wiped {K : PySem.W.Frag} {Z : Option XC} {e0 : Ent Z} {O : List Nat} {w w1 : Wit} {H H1 : Hp} {σ σ1 : L2.St} {ρ : DEnv} {S S1 : Sto} (ent : Ent none) (h1 : e0.w = ent.w) (h2 : e0.H = ent.H) (h3 : e0.k = ent.k) (r : R K e0 O w H σ ρ S) (x : Ext w H w1 H1) (g : Gd K w1 H1 S1) (hl : σ1.length = σ.length) :
    R K ent [] w1 H1 σ1 (ρ.map fun _ => none) S1 where
  gd := g
  ext := by rw [← h1, ← h2]; exact r.ext.trans x
  kn := by rw [← h3]; exact r.kn.trans x.le
  val := fun i d e _ => by
    rw [List.getElem?_map] at e
    cases q : ρ[i]? with
    | none => rw [q] at e; cases e
    | some o => rw [q] at e; cases e
  own := fun i d e n => by cases n
  dis := fun i j a hi => by cases hi
  len := by rw [List.length_map, hl]; exact r.len
  exc := fun z hz => by cases hz
  thk := fun z hz => by cases hz
/-- from a state told of nobody to one told of the lambda -/
theorem R.toT {K : PySem.W.Frag} {ent : Ent none} {Z : Option XC} (e0 : Ent Z) {w : Wit} {H : Hp} {σ : L2.St} {ρ : DEnv} {S : Sto} (h1 : e0.w = ent.w) (h2 : e0.H = ent.H) (h3 : e0.k = ent.k) (ht : ∀ z, Z = some z → (∀ p, z.th = some p → e0.w = p.1 ∧ e0.H = p.2) ∧ (z.T ≠ [] → w.T = z.T)) (r : R K ent [] w H σ ρ S) : R K e0 [] w H σ ρ S :=
  ⟨r.gd, by rw [h1, h2]; exact r.ext, by rw [h3]; exact r.kn, r.val, fun i d e n => (by cases n), r.dis, r.len, fun z hz hi => (by cases hi), ht⟩
theorem R.drop0 {K : PySem.W.Frag} {Z : Option XC} {ent : Ent Z} {w : Wit} {H : Hp} {σ : L2.St} {ρ : DEnv} {S : Sto} (r : R K ent [0] w H σ ρ S) (h : ρ[0]? = some none) : R K ent [] w H σ ρ S :=
  ⟨r.gd, r.ext, r.kn, fun i d e _ => r.val i d e fun m => (by
    have : i = 0 := by simpa using m
    subst this
    rw [h] at e; cases e), fun i d e n => (by cases n), fun i j a hi => (by cases hi), r.len, fun z hz hi => (by cases hi), r.thk⟩
theorem takesL {X : Cx} {W : WX} (t : Takes X W) : Takes X fun c d σ H => σ.length = X.N.length → W c d σ H := fun u s' ⟨a, B, sI, pins, σ, H, cls, d, e, I, nb, up, sky, na, os, ag, w⟩ =>
  t u s' ⟨a, B, sI, pins, σ, H, cls, d, e, I, nb, up, sky, na, os, ag, w I.len⟩
/-- what is known of the lambda in the def that got it -/
structure ThOk (X : Cx) (a : Str) (f c' : Addr) (q : Str) (w0 : Wit) (H0 : Hp) (S0 : Sto) (th : Th) (tl : XK → Hp → VK → Prop) : Prop where
  g0 : Gd X.K w0 H0 S0
  hc : H0 c' = some (LamX.CodeO c' q)
  act : ∀ (W : WX) (pn : List (Addr × Obj)) (xe : Value → Shared → Prop) (E : XK) (p1 p2 : Pos), Takes (X.tr pn xe) W → (∀ cls d σ' H', E cls d H' → W cls d σ' H') → PE (X.tr pn xe) (.Call (.Name a p1) [] [] p2) (fun σZ HZ Q => σZ[0]? = some (some (.ref f)) ∧ HZ c' = some (LamX.CodeO c' q) ∧ tl E HZ Q)
  htl : ∀ (H' : Hp) (w' : Wit) (S' : Sto) (E : XK) (Q' : VK), Ext w0 H0 w' H' → Gd X.K w' H' S' → PostF X.K w' H' (th S') Q' E → tl E H' Q'
theorem ds_tryT {X : Cx} {f c' : Addr} {q : Str} {w0 : Wit} {H0 : Hp} {S0 : Sto} {th : Th} {tl : XK → Hp → VK → Prop} {a : Str} {h₀ : ExceptHandler} {hds : List ExceptHandler} {l : List Hd} {fs : List HdF} {p1 p2 p3 pos : Pos}
    (A : ThOk X a f c' q w0 H0 S0 th tl) (hN : X.N.Nodup) (hh : HdsD X ⟨[], []⟩ [] (h₀ :: hds) l fs) (hs : X.stack = X.env :: X.outer := by rfl) (hf : X.env.frame = some X.env.locals := by rfl)
    (hsw : ∀ (pn : List (Addr × Obj)) (xe : Value → Shared → Prop), swapsWith (.Call (.Name a p1) [] [] p2) none p3.line (X.tr pn xe).env = pure false := by intros; rfl) :
    DS X (Wt X.K f w0 H0) ⟨[], []⟩ [0] (.Try [.Expr (.Call (.Name a p1) [] [] p2) p3] (h₀ :: hds) [] [] pos) [] (sTryT th fs) := by
  obtain ⟨g0, hc, act, htl⟩ := A
  refine ⟨(ps_tryC (tb := fun W D σ H => σ[0]? = some (some (.ref f)) ∧ H c' = some (LamX.CodeO c' q) ∧ tl (fun cls d H' => ∀ σ' : L2.St, σ'.length = σ.length → W cls d σ' H') H (fun _ H1 => D.nx σ H1)) hN hs hf (LamX.takes0 (X := X)) (fun W pn xe tk _ => ⟨fun pins s σ H D I ⟨h1, h2, h3⟩ => ?_⟩) hh.cls).imp ?_⟩
  · have il : σ.length = X.N.length := I.len
    have hp := act _ pn xe (fun cls d H' => ∀ σ' : L2.St, σ'.length = σ.length → W cls d σ' H') p1 p2 (takesL tk) fun cls d σ' H' k e => k σ' (by rw [il]; exact e)
    exact (pss_one (ps_expr hp (hsw pn xe))).run pins s σ H D I ⟨h1, h2, h3⟩
  · rintro En σ H ⟨ent, w, ρ, S, r, p⟩
    obtain ⟨tw, tH⟩ := (r.thk _ rfl).1 (w0, H0) rfl
    unfold sTryT at p
    cases e0 : ρ[0]? with
    | none => rw [e0] at p; exact p.elim
    | some o => cases o with
      | some _ => rw [e0] at p; exact p.elim
      | none =>
        rw [e0] at p
        dsimp only at p
        have x0 : Ext w0 H0 w H := by
          have := r.ext
          rw [tw, tH] at this
          exact this
        refine ⟨(r.exc _ rfl (by simp [xT]) e0).1, x0.code g0 hc, htl H w S _ _ x0 r.gd ?_⟩
        cases e1 : th S with
        | stuck => rw [e1] at p; exact p.elim
        | ok d S1 =>
          rw [e1] at p
          intro v H1 w1 x1 g1 _
          exact p w1 H1 σ ((r.later x1 g1).drop0 e0)
        | exn x S1 =>
          rw [e1] at p
          intro cls dx H1 w1 x1 g1 hx σ' hl
          have e3 : Ent none := ⟨ent.w, ent.H, ent.k⟩
          have up : ∀ {w2 H2 σ2 ρ2 S2}, R X.K (⟨ent.w, ent.H, ent.k⟩ : Ent none) [] w2 H2 σ2 ρ2 S2 → R X.K ent [] w2 H2 σ2 ρ2 S2 := fun r2 => R.toT ent rfl rfl rfl (fun z hz => by
            cases hz
            exact ⟨(r.thk _ rfl).1, fun h => absurd rfl h⟩) r2
          refine hh.wish (ent := (⟨ent.w, ent.H, ent.k⟩ : Ent none)) (xc := none) ?_ (R.wiped (e0 := ent) (⟨ent.w, ent.H, ent.k⟩ : Ent none) rfl rfl rfl r x1 g1 hl) hx
          have p : SPost X.K ent ⟨[], []⟩ (Wt X.K f w0 H0) [] (handD fs x (ρ.map fun _ => none) S1) En := p
          cases e2 : handD fs x (ρ.map fun _ => none) S1 with
          | nx ρ2 S2 => rw [e2] at p; exact fun w2 H2 σ2 r2 => p w2 H2 σ2 (up r2)
          | rt d S2 => rw [e2] at p; exact p
          | bk ρ2 S2 => rw [e2] at p; exact fun w2 H2 σ2 r2 => p w2 H2 σ2 (up r2)
          | ct ρ2 S2 => rw [e2] at p; exact fun w2 H2 σ2 r2 => p w2 H2 σ2 (up r2)
          | exn y ρ2 S2 => rw [e2] at p; exact fun w2 H2 σ2 cls2 dx2 r2 hx2 => p w2 H2 σ2 cls2 dx2 (up r2) hx2
          | stuck => rw [e2] at p; exact p.elim
/-- a def that gets a lambda, known by name -/
structure FokT (P : Program) (w : World) (K : PySem.W.Frag) (mg : Str → Option Value) (base : Heap) (x : Str) (k : Nat) (a : Str) (ft : Th → Th) : Prop where
  ex : ∃ (Ng : List Str) (pg : Arguments) (bg : List Stmt) (sg : Scope) (dV kV doc pm cdv ct oc : Value) (an od : Option Addr) (osl : Array (Option Value)), mg x = some (.ref (He.ga K x)) ∧ PySem.W.keepIn K (.ref (He.ga K x)) = true ∧
    K.lookup (He.ga K x) = some ⟨oc, od, .func (PySem.W.fnOf x x pg bg sg dV kV doc pm an cdv ct), osl⟩ ∧ PySem.W.codeIn K cdv x = true ∧ Binds K (PySem.W.fnOf x x pg bg sg dV kV doc pm an cdv ct) [a] [] ∧ FnScope Ng [a] sg ∧ Ng[0]? = some a ∧ Vis sg a ∧
    ∀ X : Cx, X.prog = P → X.w = w → X.K = K → X.mg = mg → X.base = base → Room k X.A → ∀ q : Str, LamX.GivesTo X Ng x sg (He.ga K x) cdv bg a q (TTd K ft)
theorem fokT {P : Program} {w : World} {K : PySem.W.Frag} {mg : Str → Option Value} {base : Heap} {x a : Str} {params : Arguments} {body : List Stmt} {scope : Scope} {dvs : List V} {kws : List (Str × V)} {fd : FuncData} {Ng : List Str} {k : Nat} {fb : Th → SF} {O' : List Nat}
    (F : FunD K x x params body scope dvs kws (He.ga K x) fd) (b : Binds K fd [a] []) (S : FnScope Ng [a] scope) (hm : mg x = some (.ref (He.ga K x))) (hv : Vis scope a) (h0 : Ng[0]? = some a)
    (hbody : ∀ (cdv : Value) (A : Around) (outer : List PySem.Env) (s : Shared) (H : Hp) (f c' : Addr) (q : Str) (w0 : Wit) (S0 : Sto) (th : Th) (tl : XK → Hp → VK → Prop), Room k (A.deeper (envOfC x scope s.heap.objs.size (He.ga K x) cdv)) →
      ThOk (cxOf C8.CX0 P w K mg base Ng x scope (He.ga K x) cdv A outer s H C8.E0).nox a f c' q w0 H S0 th tl → DSs (cxOf C8.CX0 P w K mg base Ng x scope (He.ga K x) cdv A outer s H C8.E0).nox (Wt K f w0 H) ⟨[], []⟩ [0] body O' (fb th)) :
    FokT P w K mg base x (k + 1) a (fnT Ng.length fb) := by
  obtain ⟨oc, od, dV, kV, doc, pm, an, cdv, ct, osl, rfl, lk, hcd, _, _⟩ := F.ex
  refine ⟨Ng, params, body, scope, dV, kV, doc, pm, cdv, ct, oc, an, od, osl, hm, F.kp, lk, hcd, b, S, h0, hv, ?_⟩
  rintro X rfl rfl rfl rfl rfl hr q f c' s H Q tl act hc ⟨th, w0, S0, g0, htl, hp⟩
  have A : ThOk (cxOf C8.CX0 X.prog X.w X.K X.mg X.base Ng x scope (He.ga X.K x) cdv X.A X.stack s H C8.E0).nox a f c' q w0 H S0 th tl := ⟨g0, hc, act, htl⟩
  refine ⟨_, (hbody cdv X.A X.stack s H f c' q w0 S0 th tl (hr.deeper _) A).ps, (⟨w0, H, w0⟩ : Ent (some (xT X.K f w0 H))), w0, List.replicate Ng.length none, S0, ⟨g0, .refl _ _, .refl _, fun i d e _ => ?_, fun i d e _ => ?_, fun i j a hi hj => ?_, ?_, fun z hz hi _ => ?_, fun z hz => ?_⟩, ?_⟩
  · have := List.mem_of_getElem? e
    rw [List.mem_replicate] at this
    exact absurd this.2 (by simp)
  · have := List.mem_of_getElem? e
    rw [List.mem_replicate] at this
    exact absurd this.2 (by simp)
  · rintro _ _ _ _
    have q1 : i = 0 := by simpa using hi
    have q2 : j = 0 := by simpa using hj
    rw [q1, q2]
  · have hl : 0 < Ng.length := (List.getElem?_eq_some_iff.mp h0).1
    unfold L2.start; simp; omega
  · cases hz
    refine ⟨?_, Str.empty, [], rfl, rfl, .inl ⟨rfl, rfl⟩⟩
    have hl : 0 < Ng.length := (List.getElem?_eq_some_iff.mp h0).1
    show (L2.start Ng [V.ref f])[0]? = some (some (V.ref f))
    unfold L2.start
    rw [List.getElem?_append_left (by simp)]
    rfl
  · cases hz
    exact ⟨fun p hp => (by cases hp; exact ⟨rfl, rfl⟩), fun h => absurd rfl h⟩
  · unfold fnT at hp
    cases e : fb th (List.replicate Ng.length none) S0 with
    | nx ρ S1 => rw [e] at hp; exact fun w1 H1 σ r => hp .non H1 w1 r.ext r.gd .non
    | rt d S1 => rw [e] at hp; exact fun v H1 w1 x g1 z => hp v H1 w1 x g1 z
    | exn x ρ S1 => rw [e] at hp; exact fun w1 H1 σ cls dx r h => hp cls dx H1 w1 r.ext r.gd h
    | bk ρ S1 => rw [e] at hp; exact hp.elim
    | ct ρ S1 => rw [e] at hp; exact hp.elim
    | stuck => rw [e] at hp; exact hp.elim
section
variable {X : Cx} {W : WZ} {O : List Nat} {fe : EF} {ft : Th → Th}
theorem de_lam {T : List (Addr × Str)} {x a : Str} {c P : Addr} {k kg : Nat} {params : Arguments} {body : Expr} {scope : Scope} {p lpos pos : Pos} (h : FokT X.prog X.w X.K X.mg X.base x kg a ft) (hr : Room (k + 2) X.A) (hkg : kg ≤ k + 2)
    (hT : ∃ z, W.xc = some z ∧ z.T = T) (hmT : (P, X.env.qual ++ "<lambda>") ∈ T) (hu : ∀ p ∈ T, p.1 = P → p.2 = X.env.qual ++ "<lambda>") (TB : LamX.TabB X.base X.mg c P) (hcode : X.env.code = .ref c)
    (L : LamX.LamS X.env.scope scope) (hbody : ∀ (A : Around) (outer : List PySem.Env) (s : Shared) (H : Hp) (E : XK) (f c' : Addr), Room k (A.deeper (LamX.lamEnv X scope s.heap.objs.size f c')) → DE .e (LamX.lamCx X A outer s H E scope f c') (WE E) O body fe)
    (hg : Gl X x := by rfl) (hdef : defaultsOf params X.env = ([], []) := by rfl)
    (hbind : ∀ (q : Str) (cl : List (Str × Addr)) (pm cv ctv : Value), bindArgs (PySem.W.kla_fn "<lambda>" q params body scope cl pm cv ctv) ⟨[], []⟩ = pure [] := by intros; rfl)
    (hdb : (x == ("__debug__" : Str)) = false := by decide) (hd : (a == ("__debug__" : Str)) = false := by decide) (hcd : (a == ("__classdict__" : Str)) = false := by decide) :
    DE .e X W O (.Call (.Name x p) [.Lambda params body scope lpos] [] pos) (eLam ft fe) := by
  obtain ⟨Ng, pg, bg, sg, dV, kV, doc, pm, cdv, ct, oc, an, od, osl, hm, hk, lk, hcg, hb, Sg, hNg, hva, hG⟩ := h.ex
  exact ⟨(LamX.pe_lamcall (T := T) (TT := TTd X.K ft) (t := fun E => rd X.K .e (WE E) O fe) hg hm hk lk hcg hb Sg hNg hva (hG X rfl rfl rfl rfl rfl (hr.mono hkg) _) TB hcode hmT hu hr L hdef hbind (fun A outer s H E f c' hr' => (hbody A outer s H E f c' hr').pe) hdb hd hcd).imp
    (lam_of hT fun e => by rw [e] at hmT; cases hmT)⟩
end
end DL

set_option maxHeartbeats 4000000
/-! l.count(b) of truth values; isinstance of a caught exception; a law with lambdas, its head -/
namespace DL
open PySem PySem.Spec PyProof.Rows L2
/-! ### l.count(b) -/
def eqb (b : Bool) (v : Value) : Bool := match v with
  | .bool c => c == b
  | _ => false
theorem bools_gives {A : Around} {s : Shared} {b : Bool} : ∀ {us : List Value} {bs : List Bool}, Vals (bs.map V.bl) us → (∀ y ∈ us, SeqAt.EqAt A s y (.bool b) (eqb b y)) ∧ us.countP (eqb b) = bs.count b
  | _, [], .nil => ⟨fun y hy => (by cases hy), rfl⟩
  | _, c :: bs, .cons h t => by
    obtain ⟨i1, i2⟩ := bools_gives (A := A) (s := s) (b := b) t
    have h : _ = Value.bool c := h
    subst h
    refine ⟨fun y hy => ?_, ?_⟩
    · rcases List.mem_cons.mp hy with e | e
      · rw [e]; exact SeqAt.EqAt.bool_bool c b
      · exact i1 y e
    · rw [List.countP_cons, List.count_cons, i2]; rfl
def rCntB (K : PySem.W.Frag) : V → List V → Hp → VK → Prop := fun x xs H Q => ∃ (p : Addr) (bs : List Bool) (b : Bool), x = .ref p ∧ xs = [.bl b] ∧ SqL K H p (bs.map V.bl) ∧ Q (.int (bs.count b : Nat)) H
section
variable {X : Cx}
theorem mt_cntB : MtR X "list.count" (rCntB X.K) := by
  intro pins s σ H x xs v us Q I rx rxs h
  obtain ⟨p, bs, b, rfl, rfl, hs, q⟩ := h
  cases rx
  obtain ⟨u, rfl, ru⟩ := rxs.one
  have ru : u = Value.bool b := ru
  subst ru
  obtain ⟨its, rv, ⟨⟨cls, dd, data, sl⟩, n, ho, hc, hdn, hd⟩, hlen⟩ := I.list hs
  simp only at hc hd
  subst hc hd
  refine call_meets PySem.F.slot_list_count ⟨_, ho, rfl⟩ PySem.F.entry_list_count (PySem.F.args_list_count_2 _ _)
    (SeqAt.list_countAt p its.toArray n dd sl (.bool b) (eqb b)) ⟨ho, fun y hy => (bools_gives rv).1 y (by simpa using hy), ?_⟩
  have ec : its.toArray.toList.countP (eqb b) = bs.count b := (bools_gives (A := X.A) (s := s) rv).2
  refine ⟨.int (bs.count b : Nat), H, I.tok _, ⟨s.toks, ?_⟩, q⟩
  show Value.int ((its.toArray.toList.countP (eqb b) : Nat) : Int) s.toks = Value.int ((bs.count b : Nat) : Int) s.toks
  rw [ec]
end
theorem bls_rep {K : PySem.W.Frag} {w : Wit} : ∀ {ds : List D} {vs : List V} {l : List Bool}, Reps K w ds vs → blsF ds = some l → vs = l.map V.bl
  | _, _, _, .nil, e => by simp only [blsF, Option.some.injEq] at e; subst e; rfl
  | _, _, _, .cons (d := d) (v := v) (ds := ds) h t, e => by
    cases h with
    | bl x =>
      simp only [blsF] at e
      cases e2 : blsF ds with
      | none => rw [e2] at e; cases e
      | some l2 => rw [e2] at e; cases e; rw [bls_rep t e2]; rfl
    | _ => cases e
section
variable {X : Cx} {W : WZ} {O : List Nat} {o e : Expr} {fo fe : EF} {ka kb : Kd} {apos cpos : Pos}
theorem cnt_of {K : PySem.W.Frag} : ∀ σ H Q, rd K .e W O (eCnt fo fe) σ H Q → tBM K "list" (rCntB K) (rd K ka W O fo) (tCons (rd K kb W O fe) tNil) σ H Q := by
  rintro σ H Q ⟨ent, w, ρ, S, r, p⟩
  refine ⟨ent, w, ρ, S, r, p.bind fun d S1 v H1 w1 x1 g1 z1 p1 => ?_⟩
  have v1 := (z1.ext (H1 := H1) (.refl _ _)).vw g1
  have r1 := r.later x1 g1
  generalize hD : deref S1 d = D1 at v1 p1
  cases v1 with
  | @lst a vs ds h rr =>
    refine ⟨.inl ⟨rfl, _, h⟩, ?_⟩
    refine ⟨ent, w1, ρ, S1, r1, p1.bind fun d2 S2 v2 H2 w2 x2 g2 z2 p2 => ?_⟩
    have a2 := (z1.ext (H1 := H2) x2).vw g2
    have b2 := (z2.ext (H1 := H2) (.refl _ _)).vw g2
    cases e : cntOf (deref S2 d) (deref S2 d2) with
    | none => rw [e] at p2; exact p2.elim
    | some r =>
      rw [e] at p2
      generalize deref S2 d = E1 at a2 e
      generalize deref S2 d2 = E2 at b2 e
      cases a2 with
      | @lst a' vs' ds' h' rr' =>
        cases b2 with
        | bl b =>
          simp only [cntOf] at e
          cases e2 : blsF ds' with
          | none => rw [e2] at e; cases e
          | some bs =>
            rw [e2] at e
            cases e
            have := bls_rep rr' e2
            subst this
            exact ⟨_, bs, b, rfl, rfl, h', p2 _ H2 w2 (.refl _ _) g2 (.int _)⟩
        | _ => cases e
      | _ => cases e
  | _ => exact p1.elim
theorem de_cnt (ho : DE ka X W O o fo) (he : DE kb X W O e fe)
    (hbase : attributeBase o "count" X.env (eval o X.env) = eval o X.env := by rfl)
    (hfew : ((backTo cpos (starEach [e] X.env)).all (fun x => !x.1) && (backToKw cpos (keywordEach [] X.env)).all (fun x => x.1.isSome)
      && decide (([e] : List Expr).length + ([] : List Keyword).length + (if ([] : List Keyword).isEmpty then 0 else 1) < 30)) = true := by rfl)
    (hline : (apos.endLine == cpos.line) = true := by rfl) (hs : starEach [e] X.env = (false, eval e X.env) :: starEach [] X.env := by rfl) (hplain : (backTo cpos (starEach [] X.env)).any (·.1) = false := by rfl) :
    DE .e X W O (.Call (.Attribute o "count" apos) [e] [] cpos) (eCnt fo fe) :=
  ⟨(pe_bm PySem.F.plainAttrs_list PySem.F.slot_list_count PySem.F.type_list_count mt_cntB ho.pe (pa_cons he.pe pa_nil hs) hbase hfew hline hs hplain).imp cnt_of⟩
end
/-! ### isinstance(e, C), e the caught exception -/
theorem excCB_ok {K : PySem.W.Frag} {c : Str} (h : excCB K c = true) : ExcC K (He.ga K c) := by
  unfold excCB at h
  obtain ⟨h1, h⟩ := Bool.and_eq_true_iff.mp h
  obtain ⟨h2, h⟩ := Bool.and_eq_true_iff.mp h
  obtain ⟨h3, h⟩ := Bool.and_eq_true_iff.mp h
  obtain ⟨h4, h⟩ := Bool.and_eq_true_iff.mp h
  obtain ⟨h5, h⟩ := Bool.and_eq_true_iff.mp h
  obtain ⟨h6, h⟩ := Bool.and_eq_true_iff.mp h
  obtain ⟨h7, h8⟩ := Bool.and_eq_true_iff.mp h
  exact ⟨He.eqO_ok h1, He.eqO_ok h2, of_decide_eq_true h3, h4, He.eqO_ok h5, He.eqO_ok h6, of_decide_eq_true h7, of_decide_eq_true h8⟩
end DL

set_option maxHeartbeats 4000000
/-! a law with lambdas: its promise, its head -/
namespace DL
open PySem PySem.Spec PyProof.Rows L2
def zL (T : List (Addr × Str)) : XC := ⟨1000000, 0, .none, none, .non, none, T⟩
abbrev WL (T : List (Addr × Str)) (E : XK) : WZ := ⟨fun cls d _ H => E cls d H, some (zL T), .e⟩
theorem fn_readT {K : PySem.W.Frag} {T : List (Addr × Str)} {N : List Str} {n : Nat} {fb : SF} {O' : List Nat} {vs : List V} {H : Hp} {Q : VK} {E : XK} (hn : n ≤ N.length) (h : spT T K n (fnD N.length fb) vs H Q E) :
    rdS K ⟨[], []⟩ (WL T E) [] O' fb { nx := fun _ H' => Q .non H', rt := Q } (L2.start N vs) H := by
  obtain ⟨hl, w, S, ds, hT, g, rs, p⟩ := h
  have hd := rs.length
  refine ⟨(⟨w, H, w⟩ : Ent (some (zL T))), w, ds.map some ++ List.replicate (N.length - ds.length) none, S, ⟨g, .refl _ _, .refl _, fun i d e _ => ?_, fun i d e n => absurd n (by simp), fun i j a hi => absurd hi (by simp), ?_, fun z hz hi => absurd hi (by simp), fun z hz => by cases hz; exact ⟨fun p hp => (by cases hp), hT⟩⟩, ?_⟩
  · by_cases hi : i < ds.length
    · rw [List.getElem?_append_left (by simpa using hi), List.getElem?_map] at e
      cases e2 : ds[i]? with
      | none => rw [e2] at e; cases e
      | some d' =>
        rw [e2] at e; cases e
        obtain ⟨v, ev, rv⟩ := rs.get e2
        refine ⟨v, ?_, rv⟩
        unfold L2.start
        rw [List.getElem?_append_left (by rw [List.length_map, ← hd]; exact hi), List.getElem?_map, ev]; rfl
    · rw [List.getElem?_append_right (by simpa using hi)] at e
      have := List.mem_of_getElem? e
      rw [List.mem_replicate] at this
      exact absurd this.2 (by simp)
  · unfold L2.start; simp; omega
  · unfold fnD at p
    cases e : fb (ds.map some ++ List.replicate (N.length - ds.length) none) S with
    | nx ρ S1 => rw [e] at p; exact fun w1 H1 σ r => p .non H1 w1 r.ext r.gd .non
    | rt d S1 => rw [e] at p; exact fun v H1 w1 x g1 z => p v H1 w1 x g1 z
    | exn x ρ S1 => rw [e] at p; exact fun w1 H1 σ cls dx r h => p cls dx H1 w1 r.ext r.gd h
    | bk ρ S1 => rw [e] at p; exact p.elim
    | ct ρ S1 => rw [e] at p; exact p.elim
    | stuck => rw [e] at p; exact p.elim
/-- a def with lambdas keeps what its body's reading says -/
theorem fn_dlL {P : Program} {w : World} {K : PySem.W.Frag} {mg : Str → Option Value} {base : Heap} {x qual : Str} {params : Arguments} {body : List Stmt} {scope : Scope} {dvs : List V} {kws : List (Str × V)} {f : Addr} {fd : FuncData} {T : List (Addr × Str)} {N ps : List Str} {k : Nat} {fb : SF} {O' : List Nat}
    (F : FunD K x qual params body scope dvs kws f fd) (S : FnScope N ps scope) (hn : ps.length ≤ N.length)
    (hbody : ∀ (A : Around) (outer : List PySem.Env) (s : Shared) (H : Hp) (E : XK), Room k (A.deeper (envOfC qual scope s.heap.objs.size f (.ref (cAt K f)))) → DSs (cxOf (L2.CX P w) P w K mg base N qual scope f (.ref (cAt K f)) A outer s H E) (WL T E) ⟨[], []⟩ [] body O' fb) :
    FnOk P w K mg base (L2.CX P w) (k + 1) f fd ps (spT T K ps.length (fnD N.length fb)) := by
  obtain ⟨oc, od, dV, kV, doc, pm, an, cdv, ct, osl, rfl, lk, hcd, _, _⟩ := F.ex
  obtain ⟨c, rfl⟩ := He.codeIn_ref hcd
  have ec : cAt K f = c := by
    unfold cAt
    rw [lk]
  rw [ec] at hbody
  exact fn_of lk hcd S (fun vs H Q E h => h.1) fun A outer s H vs Q E hr h => ⟨_, (hbody A outer s H E hr).ps, fn_readT hn h⟩
section
variable {X : Cx} {W : WZ} {O : List Nat} {fe : EF} {ft : Th → Th}
theorem de_lam1 {x a q : Str} {c P : Addr} {k kg : Nat} {params : Arguments} {body : Expr} {scope : Scope} {p lpos pos : Pos} (h : FokT X.prog X.w X.K X.mg X.base x kg a ft) (hr : Room (k + 2) X.A) (hkg : kg ≤ k + 2)
    (hT : ∃ z, W.xc = some z ∧ z.T = [(P, q ++ "<lambda>")]) (hq : X.env.qual = q) (TB : LamX.TabB X.base X.mg c P) (hcode : X.env.code = .ref c)
    (L : LamX.LamS X.env.scope scope) (hbody : ∀ (A : Around) (outer : List PySem.Env) (s : Shared) (H : Hp) (E : XK) (f c' : Addr), Room k (A.deeper (LamX.lamEnv X scope s.heap.objs.size f c')) → DE .e (LamX.lamCx X A outer s H E scope f c') (WE E) O body fe)
    (hg : Gl X x := by rfl) (hdef : defaultsOf params X.env = ([], []) := by rfl)
    (hbind : ∀ (q : Str) (cl : List (Str × Addr)) (pm cv ctv : Value), bindArgs (PySem.W.kla_fn "<lambda>" q params body scope cl pm cv ctv) ⟨[], []⟩ = pure [] := by intros; rfl)
    (hdb : (x == ("__debug__" : Str)) = false := by decide) (hd : (a == ("__debug__" : Str)) = false := by decide) (hcd : (a == ("__classdict__" : Str)) = false := by decide) :
    DE .e X W O (.Call (.Name x p) [.Lambda params body scope lpos] [] pos) (eLam ft fe) := by
  subst hq
  exact de_lam h hr hkg hT List.mem_cons_self (fun p hp _ => by rw [List.mem_singleton.mp hp]) TB hcode L hbody hg hdef hbind hdb hd hcd
end
/-! ### the head -/
/-- a law with lambdas that answers True on every script, its walk told -/
theorem lawAtL {l : PySem.W.OpenLaw} {w : World} {K : PySem.W.Frag} {mg : Str → Option Value} {fa : Addr} {h : Heap} {k n : Nat} {x q : Str} {f : FF}
    (hf : ∀ cells : List Int, ∃ S, f [.lst (cells.map D.int)] [] = .ok (.bl true) S) (hmg : mg ("law" : Str) = some (.ref fa)) (t : TabF K h (He.ga K "law"))
    (o : ∃ fd : FuncData, (∀ (s : Shared) (u : Value), BindsTo s fd ⟨[u], []⟩ [(x, u)]) ∧ mg ("law" : Str) = some (.ref (He.ga K "law")) ∧ ∀ base : Heap, LamX.TabB base mg (cAt K (He.ga K "law")) (tAt K (He.ga K "law")) → FnOk l.prog w K mg base (L2.CX l.prog w) k (He.ga K "law") fd [x] (spT [(tAt K (He.ga K "law"), q)] K 1 f)) :
    LamX.LawAtS l w K (L2.CX l.prog w) k n x mg fa h := by
  obtain ⟨fd, hb, hm, hF⟩ := o
  have e := hmg.symm.trans hm
  cases e
  refine ⟨fd, [(cAt K (He.ga K "law"), tAt K (He.ga K "law"))], spT [(tAt K (He.ga K "law"), q)] K 1 f, fun p hp => ?_, fun p hp => ?_, fun p hp => ?_, hb, fun H a ns _ _ hT hS => start_spT (fun p hp => ?_) hf hS, fun base _ _ tb => hF base (tb _ List.mem_cons_self)⟩
  · rw [List.mem_singleton] at hp; subst hp; exact t.em
  · rw [List.mem_singleton] at hp; subst hp; exact t.no
  · rw [List.mem_singleton] at hp; subst hp; exact t.hd
  · rw [List.mem_singleton] at hp; subst hp
    exact LamX.TabS.nil (hT _ List.mem_cons_self)
end DL

set_option maxHeartbeats 4000000
/-! == of objects whose class has its own __eq__ -/
namespace DL
open PySem PySem.Spec PyProof.Rows L2
section
variable {X : Cx} {C g : Addr} {k : Nat} {fd : FuncData} {ps : List Str} {sp : Sp}
end
section
variable {X : Cx} {W : WZ} {O : List Nat} {a b : Expr} {fa fb : EF} {ff : FF} {c : Str} {k : Nat} {ps : List Str} {pos : Pos}
end
end DL

set_option maxHeartbeats 4000000
/-! isinstance(e, T), e the caught exception, with fields or without -/
namespace DL
open PySem PySem.Spec PyProof.Rows L2
def rIsE2 (K : PySem.W.Frag) (D a : Addr) (d : Option Addr) : List V → Hp → VK → Prop := fun xs H Q => ∃ (c : V) (cv : Value) (b : Bool), xs = [.ref a, c] ∧ (∀ u, RelV c u → u = cv) ∧ PySem.W.kitOne K (.ref D) cv = some b ∧ (d = none ∨ ∃ dd vs, d = some dd ∧ H dd = some (.xd vs)) ∧ Q (.bl b) H
theorem call_isE2 {X : Cx} {a D : Addr} {oe : Obj} {d : Option Addr} {pn : List (Addr × Obj)} (C : ExcC X.K D) (hz : Zc (.ref D) d oe) (hf : ∃ vs, oe.data = .fields vs) : CallR (X.suite a ((a, oe) :: pn)) (.builtin "isinstance") (rIsE2 X.K D a d) := by
  intro pins s σ H xs us Q I r h
  obtain ⟨c, cv, b, rfl, hcv, e, hd, q⟩ := h
  cases r with
  | cons rx rr =>
    cases rr with
    | cons rt rr =>
      cases rr
      cases rx
      have ec := hcv _ rt
      subst ec
      obtain ⟨hget, _⟩ := I.pin (a, oe) (List.mem_append.mpr (.inl List.mem_cons_self))
      obtain ⟨vs, hv⟩ := hf
      have hcl : (PySem.W.clsIn X.K D).isSome = true := by
        obtain ⟨cd, hc, _⟩ := PySem.W.any_some C.hd
        rw [hc]; rfl
      obtain ⟨od, J⟩ : ∃ od, PySem.W.InstAt s.heap a oe D od := by
        rcases hd with hd | ⟨dd, ws, hd, hH⟩
        · subst hd
          refine ⟨none, ?_⟩
          obtain ⟨oc, od, oda, osl⟩ := oe
          obtain ⟨h1, h2⟩ := hz
          dsimp only at h1 h2 hv
          subst h1 h2 hv
          exact ⟨hget, rfl, rfl, trivial⟩
        · subst hd
          have hx : ObjOk X.prog X.w H s.heap dd (.xd ws) := I.hok dd _ hH
          obtain ⟨mA, hns, hr⟩ := hx
          obtain ⟨od, ho, hl⟩ := lookIn_ns hns
          exact ⟨some od, hget, hz.1, by unfold PySem.W.notCls; rw [hv] <;> rfl, by rw [hz.2]; exact ho⟩
      exact PySem.W.kia_one (PySem.W.kitx_exc hcl C.hg C.hk C.hs C.ha C.hn C.ht C.hm) I.kIn J e (fun z => nomatch z) fun tk => ⟨.bl b, H, I.kept (t' := tk) fun _ _ z => z, rfl, q⟩
theorem de_xis2 {X : Cx} {O : List Nat} {a : Addr} {oe : Obj} {cls : Value} {d : Option Addr} {pn : List (Addr × Obj)} {n : Str} {i : Nat} {x : D} {p p1 pos : Pos} {T : Expr} {cv : V} {u : Value} {to : Str → Option Bool} (hT : ∀ c b, to c = some b → ExcC X.K (He.ga X.K c) ∧ PySem.W.kitAny X.K (.ref (He.ga X.K c)) [u] = some b)
    (hz : Zc cls d oe) (hf : ∃ vs, oe.data = .fields vs) (hm : X.mg "isinstance" = none) (hP : PE (X.suite a ((a, oe) :: pn)) T (tC cv)) (hcv : ClsV cv u) (hi : i ∈ O := by decide) (hN : (X.suite a ((a, oe) :: pn)).N[i]? = some n := by rfl) (hv : Vis (X.suite a ((a, oe) :: pn)).env.scope n := by first | exact Or.inl rfl | exact Or.inr (Or.inl rfl) | exact Or.inr (Or.inr rfl)) (hd : (n == ("__debug__" : Str)) = false := by decide) (hcd : (n == ("__classdict__" : Str)) = false := by decide)
    (hg : Gl X "isinstance" := by rfl)
    (hs : starEach [.Name n p1, T] X.env = (false, eval (.Name n p1) X.env) :: starEach [T] X.env := by rfl) (hs2 : starEach [T] X.env = (false, eval T X.env) :: starEach [] X.env := by rfl) (hpl : (backTo pos (starEach [T] X.env)).any (·.1) = false := by rfl) :
    DE .e (X.suite a ((a, oe) :: pn)) (Wx i a cls d x) O (.Call (.Name "isinstance" p) [.Name n p1, T] [] pos) (eXis2 i to x) := by
  refine ⟨⟨fun pins s σ H Q I ⟨ent, w, ρ, S, r, p⟩ => ?_⟩⟩
  unfold eXis2 at p
  cases e0 : ρ[i]? with
  | none => rw [e0] at p; exact p.elim
  | some o => cases o with
    | some _ => rw [e0] at p; exact p.elim
    | none =>
      rw [e0] at p
      dsimp only at p
      obtain ⟨s1, c, fs, ex, ec, h⟩ := r.exc ⟨i, a, cls, d, x, none, []⟩ rfl hi e0
      have ex : x = .ins c fs := ex
      have ec : cls = .ref (He.ga X.K c) := ec
      subst ex ec
      dsimp only at p
      cases e1 : to c with
      | none => rw [e1] at p; exact p.elim
      | some b =>
        rw [e1] at p
        obtain ⟨C1, C2⟩ := hT c b e1
        have hd' : d = none ∨ ∃ dd vs, d = some dd ∧ H dd = some (.xd vs) := by
          rcases h with ⟨h, _⟩ | ⟨dd, vs, ed, hH, rf⟩
          · exact .inl h
          · exact .inr ⟨dd, vs, ed, hH⟩
        refine (pe_callB (X := X.suite a ((a, oe) :: pn)) (call_isE2 C1 hz hf) hg hm (by rfl) (pa_cons (pe_var (i := i) hN hv hd hcd) (pa_cons hP pa_nil hs2) hs) (by decide) (by decide) hs hpl).run pins s σ H Q I ?_
        exact ⟨.ref a, s1, cv, u, b, rfl, fun v hv => hcv.eq hv, kitAny_one C2, hd', p _ H w (.refl _ _) r.gd (.bl b)⟩
end DL

set_option maxHeartbeats 1000000
/-! the hook with getters of properties: the interpreter's own statics are in its view -/
namespace DL
open PySem PySem.Spec PyProof.Rows L2
section
variable (fa : List He.Fa) (fn : List He.DefD) (ts : List He.Tab) (bs : List (PySem.W.Frag → Bool)) (fp : List He5.DefA)
end
section
variable {fa : List He.Fa} {fn : List He.DefD} {ts : List He.Tab} {bs : List (PySem.W.Frag → Bool)} {fp : List He5.DefA} {w : World} {K : PySem.W.Frag}
end
end DL

set_option maxHeartbeats 1000000
/-! {k: v for x in .. if ..}, keys texts or ints -/
namespace DL
open PySem PySem.Spec PyProof.Rows L2
theorem deref_kOf {S : Sto} {d : D} {k : L2.Key} (h : kOf d = some k) : deref S d = d := by
  cases d <;> simp [kOf] at h <;> first | exact deref_int | exact deref_str | rfl
theorem pd_dK {o : Option HO} {us : List (L2.Key × V)} (e : o = some (.dK us)) : Pd o := ⟨fun ps z => (by rw [e] at z; cases z), fun c q z => by rw [e] at z; exact codeO_ne' (fun f z => by cases z) (Option.some.inj z).symm⟩
section
variable {X : Cx} {W : WZ} {O : List Nat} {kx vx tg iter : Expr} {ifs : List Expr} {scope : Scope} {own : List (Str × Nat)} {pos : Pos} {fi : IF} {g : GF} {t : TG} {fc fk fv : EF}
end
end DL

set_option maxHeartbeats 4000000
/-! t[-2::-1] of tuples -/
namespace HT
open PySem PySem.Spec PyProof.Rows
section
variable {prog : Program} {w : World} {A : Around} {E : Value → Shared → Prop} {s : Shared}
end
end HT
namespace L2
open PySem PySem.Spec PyProof.Rows
section
variable {X : Cx}
end
end L2
namespace DL
open PySem PySem.Spec PyProof.Rows L2
section
variable {X : Cx} {W : WZ} {O : List Nat} {e : Expr} {fa : EF} {ka : Kd} {pos : Pos}
end
end DL

set_option maxHeartbeats 4000000
/-! sorted of any walked thing: by what collecting it gives -/
namespace PySem.W
open PySem PySem.Spec PyProof.Rows PySem.Calls
section
variable {prog : Program} {w : World} {A : Around} {E : Value → Shared → Prop} {s : Shared} {β : Type} {vs : List Value} {bs : List β} {enc : β → PyData} {R : Value → β → Prop}
end
end PySem.W

set_option maxHeartbeats 4000000
/-! sorted of tuples, lists and dicts -/
namespace PySem.W
open PySem PySem.Spec PyProof.Rows PySem.Calls
section
variable {prog : Program} {w : World} {A : Around} {E : Value → Shared → Prop} {s : Shared} {β : Type} {bs : List β} {enc : β → PyData} {R : Value → β → Prop}
theorem sorted_gen2 {x : Value} {Q : Value → Shared → Prop} (hc : ∀ (E' : Value → Shared → Prop) (Q' : List Value → Shared → Prop), (∀ vs h' tk, EachIs R vs bs → EachIs (fun v b => ∃ as, Reads s.heap v (enc b) as) vs bs → (∀ b o, s.heap.get? b = some o → h'.get? b = some o) → Q' vs { s with heap := h', toks := tk }) → wpAny (model prog w) A.in1 (collect x) Q' E' s)
    (hal : AllAlike (bs.map enc)) (hk : Sortable (bs.map enc)) (hL : bs.length ≤ sizeLine)
    (hu : ∀ b, b ∈ bs → A.units + 2 + (enc b).depth < cLine)
    (h : ∀ (h1 : Heap) tk out h' n, out.length = bs.length → EachIs R out (bs.mergeSort (dataLe false enc)) → (∀ b o, s.heap.get? b = some o → h1.get? b = some o) → (∀ b o, h1.get? b = some o → h'.get? b = some o) → h'.get? h1.objs.size = some (seqObj "list" (List.toArray out) n) → Q (.ref h1.objs.size) { s with heap := h', toks := tk }) :
    wpAny (model prog w) A (call (.builtin "sorted") [x]) Q E s := by
  refine call_function_entry_kw kind_sorted plain_sorted entry_sorted (args_sorted1 _) ?_
  unfold Builtin.«sorted»
  refine wpAny_bind (m := checkCount "sorted" 1 1 _) (wpAny_pure ?_)
  refine wpAny_bind (hc _ _ fun vs h1 tk e er k1 => ?_)
  have hv : vs.length ≤ sizeLine := by rw [e.length]; exact hL
  refine wpAny_bind (wpAny_newList ?_ hv)
  have at1 : (h1.push (seqObj "list" vs.toArray 0)).get? h1.objs.size = some (seqObj "list" vs.toArray 0) := Heap.get?_push_size _ rfl
  have k3 : ∀ b o, h1.get? b = some o → b ≠ h1.objs.size ∧ (h1.push (seqObj "list" vs.toArray 0)).get? b = some o := fun b o q => ⟨Nat.ne_of_lt (Heap.lt_size q), Heap.get?_push_of_some _ q⟩
  have k2 : ∀ b o, s.heap.get? b = some o → b ≠ h1.objs.size ∧ (h1.push (seqObj "list" vs.toArray 0)).get? b = some o := fun b o q => k3 b o (k1 b o q)
  show wpAny _ _ _ _ _ { s with heap := h1.push (seqObj "list" vs.toArray 0), toks := tk }
  have er' : EachIs (fun v b => ∃ as, Reads (sortingHeap (h1.push (seqObj "list" vs.toArray 0)) h1.objs.size vs) v (enc b) as) vs bs := er.mono fun _ _ ⟨as, r⟩ => ⟨as, PyProof.Rows.Reads.keeps (fun b o q => sortingHeap_old (k2 b o q).1 (k2 b o q).2) r⟩
  refine wpAny_bind (wpAny_holding (wpAny_call_entry_kw slot_list_sort ⟨_, at1, rfl⟩ entry_list_sort ?body (args_list_sort _)))
  case body =>
    show wpAny (model prog w) A.in1.in1 (Builtin.«list.sort» ⟨[.ref h1.objs.size], []⟩) _ _ _
    refine list_sort_vals (s := { s with heap := h1.push (seqObj "list" vs.toArray 0), toks := tk }) (κ := dataKind (sortingHeap (h1.push (seqObj "list" vs.toArray 0)) h1.objs.size vs) (bs.map enc)) at1 (SortsAt.data (s := { s with heap := sortingHeap (h1.push (seqObj "list" vs.toArray 0)) h1.objs.size vs, toks := tk }) (each_map (R := fun v d => ∃ as, Reads (sortingHeap (h1.push (seqObj "list" vs.toArray 0)) h1.objs.size vs) v d as) enc er') hal hk (bound_map hu)) hv ?_
    refine ⟨_, rfl, wpAny_pure ⟨_, rfl, ?_⟩⟩
    obtain ⟨n, hn⟩ := sortedHeap_at (out := (sortVals (dataKind (sortingHeap (h1.push (seqObj "list" vs.toArray 0)) h1.objs.size vs) (bs.map enc)) false vs vs).toArray) at1
    refine h h1 tk _ _ n (by rw [sortVals_length false rfl]; exact e.length) (sortVals_data false e er' hal) k1 (fun b o q => ?_) hn
    rw [sortedHeap_old (k3 b o q).1 (Heap.lt_size (k3 b o q).2)]
    exact (k3 b o q).2
end
end PySem.W
namespace DL
open PySem PySem.Spec PyProof.Rows L2
def sortA (d : D) : Option D := match itemsA d with
  | some ds => if sortOk ds = true then some (.lst (sortD ds)) else none
  | none => none
section
variable {X : Cx} {pins : List (Addr × Obj)} {σ : L2.St} {s : Shared} {H : Hp} {w : Wit} {S : Sto}
theorem sortA_go (hu : X.A.units + 64 < cLine) {x : Value} {ds : List D} {vs : List V} {E : Value → Shared → Prop} {Q : VK} (I : L2.Inv X pins σ H s) (g : Gd X.K w H S) (rr : Reps X.K w ds vs) (hok : sortOk ds = true)
    (hc : ∀ (E' : Value → Shared → Prop) (Q' : List Value → Shared → Prop), (∀ its h' tk, Vals vs its → (∀ b o, s.heap.get? b = some o → h'.get? b = some o) → Q' its { s with heap := h', toks := tk }) → wpAny (model X.prog X.w) X.A.in1 (collect x) Q' E' s)
    (q : ∀ p vs', H p = none → Reps X.K w (sortD ds) vs' → Q (.ref p) (upd H p (.lst vs'))) :
    wpAny (model X.prog X.w) X.A (call (.builtin "sorted") [x]) (EP X pins σ Q) E s := by
  simp only [sortOk, Bool.and_eq_true, Bool.or_eq_true, decide_eq_true_eq, List.all_eq_true] at hok
  obtain ⟨⟨⟨⟨h1, h2⟩, h3⟩, h4⟩, h5⟩ := hok
  have hl := rr.length
  have hz := zip_fst (as := ds) (bs := vs) hl
  have hm : ∀ b ∈ ds.zip vs, b.1 ∈ ds := fun b hb => by rw [← hz]; exact List.mem_map_of_mem hb
  have h1' : ∀ d ∈ ds, plD d = true := by rw [plDs_all, List.all_eq_true] at h1; exact h1
  have hmap : (ds.zip vs).map (fun b => toPy b.1) = ds.map toPy := by
    have : (ds.zip vs).map (fun b => toPy b.1) = ((ds.zip vs).map (·.1)).map toPy := by rw [List.map_map]; rfl
    rw [this, hz]
  have h5' := lim_size h5
  refine PySem.W.sorted_gen2 (bs := ds.zip vs) (enc := fun b => toPy b.1) (R := RSort X.K w) (fun E' Q' hq => hc E' Q' fun its h' tk rv k => hq its h' tk (each_in rr rv) (each_reads I g.sub (each_in rr rv) fun b hb => h1' _ (hm b hb)) k) ?_ ?_ (by simp; omega) (fun b hb => ?_) fun ha tk out h' n ho hout k1 k3 hn => ?_
  · rw [hmap]
    intro d hd d' hd'
    obtain ⟨x, hx, rfl⟩ := List.mem_map.mp hd
    obtain ⟨y, hy, rfl⟩ := List.mem_map.mp hd'
    exact h2 x hx y hy
  · rw [hmap]
    rcases h3 with h3 | h3
    · refine .inl fun d hd => ?_
      obtain ⟨x, hx, rfl⟩ := List.mem_map.mp hd
      have := h3 x hx
      cases x with
      | tup es => cases es with
        | nil => cases this
        | cons e es => exact ⟨toPy e, toPys es, by simp only [toPy, toPys]⟩
      | ctp es => cases es with
        | nil => cases this
        | cons e es => exact ⟨toPy e, toPys es, by simp only [toPy, toPys]⟩
      | _ => cases this
    · refine .inr fun d hd => ?_
      obtain ⟨x, hx, rfl⟩ := List.mem_map.mp hd
      have := h3 x hx
      cases x <;> first | exact absurd this Bool.false_ne_true | exact ⟨by simp [toPy], by simp [toPy]⟩
  · have := h4 _ (hm b hb)
    have e64 : (toPy b.1).depth ≤ 60 := by simpa using this
    omega
  · obtain ⟨r1, v1⟩ := each_out hout
    have hs : ((ds.zip vs).mergeSort (PySem.W.dataLe false fun b => toPy b.1)).map (·.1) = sortD ds := by
      unfold sortD
      have := List.map_mergeSort (r := PySem.W.dataLe false fun b : D × V => toPy b.1) (s := PySem.W.dataLe false toPy) (f := (·.1)) (l := ds.zip vs) (fun _ _ _ _ => rfl)
      rw [this, hz]
    rw [hs] at r1
    have I1 : Inv X pins σ H { s with heap := ha, toks := tk } := I.kept k1
    have hn0 : H ha.objs.size = none := by
      cases hh : H ha.objs.size with
      | none => rfl
      | some ob => exact absurd (I1.hok.lt hh) (Nat.lt_irrefl _)
    have lo : (((ds.zip vs).mergeSort (PySem.W.dataLe false fun b => toPy b.1)).map (·.2)).length ≤ sizeLine := by
      rw [List.length_map, List.length_mergeSort, List.length_zip]; omega
    have I3 := I1.laid (t' := tk) (a := ha.objs.size) (o := .lst (((ds.zip vs).mergeSort (PySem.W.dataLe false fun b => toPy b.1)).map (·.2))) k3 (Nat.le_refl _) ⟨lo, out, n, v1, hn⟩
    exact ⟨.ref _, _, I3, rfl, q _ _ hn0 r1⟩
end
section
variable {X : Cx}
theorem cr_sortA (hcalm : X.calm = true) (hu : X.A.units + 64 < cLine) : CallR X (.builtin "sorted") (rN X.K .f (f1 sortA)) := by
  refine call1 fun pins s σ H x u Q w S d d' I r g v e q => ?_
  unfold sortA at e
  cases v with
  | @tup a vs ds hF rr =>
    simp only [itemsA] at e
    split at e
    case isFalse => cases e
    rename_i hok
    cases e
    have eu : u = .ref a := r
    subst eu
    obtain ⟨its, rv, ⟨o, eo, hc, n, hdt⟩, z⟩ := I.tuple (SqT.of (g.sub _ _ hF))
    have hl := rv.length
    refine sortA_go hu I g rr hok (fun E' Q' hq => ?_) fun p vs' hn r1 => q _ _ w (Ext.newO w hn) (g.newO hn) ⟨_, rfl, hn, g.noneF hn, g.nophi hn, _, upd_same, r1⟩
    refine wpAny_collect_seq (items := its.toArray) a (.inr rfl) eo hc hdt (fun h' hk => ?_) (by rw [List.size_toArray]; omega)
    exact hq its h' s.toks rv hk
  | @ctp a vs ds hF rr =>
    simp only [itemsA] at e
    split at e
    case isFalse => cases e
    rename_i hok
    cases e
    have eu : u = .ref a := r
    subst eu
    obtain ⟨its, rv, ⟨o, eo, hc, n, hdt⟩, z⟩ := I.tuple (SqT.monoF none_le hF)
    have hl := rv.length
    refine sortA_go hu I g rr hok (fun E' Q' hq => ?_) fun p vs' hn r1 => q _ _ w (Ext.newO w hn) (g.newO hn) ⟨_, rfl, hn, g.noneF hn, g.nophi hn, _, upd_same, r1⟩
    refine wpAny_collect_seq (items := its.toArray) a (.inr rfl) eo hc hdt (fun h' hk => ?_) (by rw [List.size_toArray]; omega)
    exact hq its h' s.toks rv hk
  | @lst a vs ds hF rr =>
    simp only [itemsA] at e
    split at e
    case isFalse => cases e
    rename_i hok
    cases e
    have eu : u = .ref a := r
    subst eu
    obtain ⟨its, rv, ⟨o, n, eo, hc, hd, hdt⟩, z⟩ := I.list hF
    have hl := rv.length
    refine sortA_go hu I g rr hok (fun E' Q' hq => ?_) fun p vs' hn r1 => q _ _ w (Ext.newO w hn) (g.newO hn) ⟨_, rfl, hn, g.noneF hn, g.nophi hn, _, upd_same, r1⟩
    refine wpAny_collect_seq (items := its.toArray) a (.inl rfl) eo hc hdt (fun h' hk => ?_) (by rw [List.size_toArray]; omega)
    exact hq its h' s.toks rv hk
  | @dK a xs kvs hd rr =>
    simp only [itemsA] at e
    split at e
    case isFalse => cases e
    rename_i hok
    cases e
    have eu : u = .ref a := r
    subst eu
    obtain ⟨z, lo, vs, rel, dd⟩ := dk_rd I.hok hd
    obtain ⟨ep, hat⟩ := dd.dictAt
    have hl := Paired.length rel
    refine sortA_go hu I g (rr.keys (w' := w)) hok (fun E' Q' hq => ?_) fun p vs' hn r1 => q _ _ w (Ext.newO w hn) (g.newO hn) ⟨_, rfl, hn, g.noneF hn, g.nophi hn, _, upd_same, r1⟩
    refine PySem.W.kdu_collect (A := X.A.in1) (PySem.W.kdl_dict (knd := mixKind X.prog X.w) (kvs := vs) (ep := ep) lo) (I.ok.hd hcalm) hat (by omega) fun h' tk acc hk hacc => hq _ h' tk ?_ hk
    have el : acc.toList.length = acc.size := by simp
    refine vals_of_at (by rw [List.length_map, el, hacc.1, hl]) fun j x w h1 h2 => ?_
    obtain ⟨k, y, hky, hi⟩ := hacc.2 j w (by rw [← Array.getElem?_toList]; exact h2)
    have e1 : (xs.map (·.1))[j]? = some k := by
      rw [KV.keys rel, List.getElem?_map, hky] <;> rfl
    have e2 : (xs.map fun kv => kV kv.1)[j]? = some (kV k) := by
      have e3 : (xs.map fun kv => kV kv.1) = (xs.map (·.1)).map kV := by rw [List.map_map] <;> rfl
      rw [e3, List.getElem?_map, e1] <;> rfl
    rw [e2] at h1
    cases h1
    exact keyIs_rel hi
  | _ => cases e
end
end DL

set_option maxHeartbeats 4000000
/-! {k: v for x in .. if .. for y in .. if ..} -/
namespace DL
open PySem PySem.Spec PyProof.Rows L2
/-- one clause, up to its tests -/
def Upto (M : Model) (A : Around) (env : Env) (t : Expr) (ifs : List Expr) (it : Value) (ER : Value → Shared → Prop) (stop : Shared → Prop) (go : Bool → Shared → Prop) (s : Shared) : Prop :=
  wpAny M A (pyNext it) (fun r s1 => match r with
    | none => stop s1
    | some v => wpAny M A (letOwnedTupleGo t it v) (fun _ s2 => wpAny M A (assign t env v) (fun _ s3 =>
        wpAny M A (forIn ifs true fun c r => if r = true then do let ok ← isTrue c env (eval c env); pure (ForInStep.yield ok) else pure (ForInStep.yield r)) go ER s3) ER s2) ER s1) ER s
abbrev dc2E (kx vx t0 i0 t1 i1 : Expr) (ifs0 ifs1 : List Expr) (scope : Scope) (pos : Pos) : Expr := .DictComp kx vx [⟨t0, i0, ifs0, 0⟩, ⟨t1, i1, ifs1, 0⟩] scope pos
section
variable {kx vx t0 i0 t1 i1 : Expr} {ifs0 ifs1 : List Expr} {scope : Scope} {pos : Pos}
theorem dcTurn0 (it : Value) (D : Addr) (env : Env) : compTurn (dc2E kx vx t0 i0 t1 i1 ifs0 ifs1 scope pos) 0 it (.ref D) env = (do
    standAt i0.pos
    match ← pyNext it with
    | none => pure (.done .next)
    | some v =>
      letOwnedTupleGo t0 it v
      assign t0 env v
      let mut ok := true
      for c in ifs0 do
        if ok then ok ← isTrue c env (eval c env)
      if ok then
        let x ← eval i1 env
        standAt i1.pos
        let x ← foldedSetIterable i1 env x
        let _ ← runOwn (.compStart (dc2E kx vx t0 i0 t1 i1 ifs0 ifs1 scope pos) 1 (← holding [x] (pyIter x)) (.ref D) env) env
      again (.compLoop (dc2E kx vx t0 i0 t1 i1 ifs0 ifs1 scope pos) 0 it (.ref D) env)) := by rfl
theorem dcTurn1 (it : Value) (D : Addr) (env : Env) : compTurn (dc2E kx vx t0 i0 t1 i1 ifs0 ifs1 scope pos) 1 it (.ref D) env = (do
    standAt i1.pos
    match ← pyNext it with
    | none => pure (.done .next)
    | some v =>
      letOwnedTupleGo t1 it v
      assign t1 env v
      let mut ok := true
      for c in ifs1 do
        if ok then ok ← isTrue c env (eval c env)
      if ok then
        (do
          let kv ← eval kx env
          let vv ← holding [kv] (eval vx env)
          standAt { kx.pos with endLine := vx.pos.endLine, endCol := vx.pos.endCol }
          holding [kv, vv] (dictSet D kv vv))
      again (.compLoop (dc2E kx vx t0 i0 t1 i1 ifs0 ifs1 scope pos) 1 it (.ref D) env)) := by rfl
variable {prog : Program} {w : World} {A : Around} {R : Result → Shared → Prop} {s : Shared} {it : Value} {D : Addr} {env : Env}
theorem dcLoop0 (hs : ∀ x, foldedSetIterable i1 env x = pure x) (I : Nat → Shared → Prop)
    (turn : ∀ n s, I n s → Upto (model prog w) A env t0 ifs0 it (notedBy (model prog w) A env fun e s' => R (.error e) s') (R (.ok .next)) (fun ok s3 =>
      if ok = true then wpAny (model prog w) A (eval i1 env) (fun x s4 => wpAny (model prog w) A (pyIter x) (fun it1 s5 =>
          codeAny (model prog w) A (.compStart (dc2E kx vx t0 i0 t1 i1 ifs0 ifs1 scope pos) 1 it1 (.ref D) env) (fun r s' => ∃ f, r = .ok f ∧ ∃ m, m < n ∧ I m s') s5)
          (notedBy (model prog w) A env fun e s' => R (.error e) s') s4) (notedBy (model prog w) A env fun e s' => R (.error e) s') s3
      else ∃ m, m < n ∧ I m s3) s) (n : Nat) (h : I n s) :
    codeAny (model prog w) A (.compLoop (dc2E kx vx t0 i0 t1 i1 ifs0 ifs1 scope pos) 0 it (.ref D) env) R s := by
  refine codeAny_loop rfl I (fun n s hI => ?_) n h
  show wpAny _ A ((compTurn (dc2E kx vx t0 i0 t1 i1 ifs0 ifs1 scope pos) 0 it (.ref D) env).onRaise (fun x => do noteFrame x env; theTreesLotGoes x)) _ _ s
  refine wpAny_noted ?_
  rw [dcTurn0]
  refine wpAny_bind (wpAny_standAt (wpAny_bind (thn (turn n s hI) fun r s1 h1 => ?_)))
  cases r with
  | none => exact wpAny_pure h1
  | some v =>
    refine wpAny_bind (thn h1 fun _ s2 h2 => wpAny_bind (thn h2 fun _ s3 h3 => wpAny_bind (thn h3 fun ok s4 h4 => ?_)))
    cases ok with
    | false => exact wpAny_pure ⟨rfl, h4⟩
    | true =>
      refine wpAny_bind (thn h4 fun x s5 h5 => wpAny_bind (wpAny_standAt (wpAny_bind (wpAny_of_eq (hs x) (wpAny_bind (wpAny_holding (thn h5 fun it1 s6 h6 => ?_)))))))
      refine wpAny_bind (wpAny_runOwn ?_)
      rw [Around.mark_none]
      refine codeAny_mono h6 fun r s' hr => ?_
      obtain ⟨f, rfl, hr⟩ := hr
      first
        | exact wpAny_pure ⟨rfl, hr⟩
        | exact wpAny_bind (wpAny_pure (wpAny_pure ⟨rfl, hr⟩))
theorem dcLoop1 (I : Nat → Shared → Prop)
    (turn : ∀ n s, I n s → Upto (model prog w) A env t1 ifs1 it (notedBy (model prog w) A env fun e s' => R (.error e) s') (R (.ok .next)) (fun ok s3 =>
      if ok = true then wpAny (model prog w) A (eval kx env) (fun kv s4 => wpAny (model prog w) A (eval vx env) (fun vv s5 => wpAny (model prog w) A (dictSet D kv vv) (fun _ s6 => ∃ m, m < n ∧ I m s6)
          (notedBy (model prog w) A env fun e s' => R (.error e) s') s5) (notedBy (model prog w) A env fun e s' => R (.error e) s') s4) (notedBy (model prog w) A env fun e s' => R (.error e) s') s3
      else ∃ m, m < n ∧ I m s3) s) (n : Nat) (h : I n s) :
    codeAny (model prog w) A (.compLoop (dc2E kx vx t0 i0 t1 i1 ifs0 ifs1 scope pos) 1 it (.ref D) env) R s := by
  refine codeAny_loop rfl I (fun n s hI => ?_) n h
  show wpAny _ A ((compTurn (dc2E kx vx t0 i0 t1 i1 ifs0 ifs1 scope pos) 1 it (.ref D) env).onRaise (fun x => do noteFrame x env; theTreesLotGoes x)) _ _ s
  refine wpAny_noted ?_
  rw [dcTurn1]
  refine wpAny_bind (wpAny_standAt (wpAny_bind (thn (turn n s hI) fun r s1 h1 => ?_)))
  cases r with
  | none => exact wpAny_pure h1
  | some v =>
    refine wpAny_bind (thn h1 fun _ s2 h2 => wpAny_bind (thn h2 fun _ s3 h3 => wpAny_bind (thn h3 fun ok s4 h4 => ?_)))
    cases ok with
    | false => exact wpAny_pure ⟨rfl, h4⟩
    | true =>
      exact wpAny_bind (wpAny_bind (thn h4 fun kv s5 h5 => wpAny_bind (wpAny_holding (thn h5 fun vv s6 h6 => wpAny_bind (wpAny_standAt (wpAny_holding (thn h6 fun _ s7 h7 => wpAny_pure ⟨rfl, h7⟩)))))))
theorem dcStart1 (h0 : codeAny (model prog w) A (.compLoop (dc2E kx vx t0 i0 t1 i1 ifs0 ifs1 scope pos) 1 it (.ref D) env) R s)
    (h : wpAny (model prog w) A (pyIter it) (fun it' s' => codeAny (model prog w) A (.compLoop (dc2E kx vx t0 i0 t1 i1 ifs0 ifs1 scope pos) 1 it' (.ref D) env) R s') (notedBy (model prog w) A env fun x s' => R (.error x) s') s) :
    codeAny (model prog w) A (.compStart (dc2E kx vx t0 i0 t1 i1 ifs0 ifs1 scope pos) 1 it (.ref D) env) R s := by
  refine codeAny_of_tree ?_
  show wpAny _ _ ((compStart (dc2E kx vx t0 i0 t1 i1 ifs0 ifs1 scope pos) 1 it (.ref D) env).onRaise (fun x => do noteFrame x env; standAt theWindowsPlace)) _ _ s
  refine wpAny_notedAt ?_
  unfold compStart
  show wpAny _ _ (ask >>= _) _ _ s
  refine wpAny_bind (wpAny_askSetting (wpAny_ite ?_))
  split
  · first
      | exact wpAny_pure ⟨rfl, h0⟩
      | exact wpAny_bind (wpAny_pure (wpAny_pure ⟨rfl, h0⟩))
  · refine wpAny_bind (wpAny_rule ?_)
    first
      | exact wpAny_bind (wpAny_standAt (wpAny_bind (thn h fun it' s' h' => wpAny_pure ⟨rfl, h'⟩)))
      | (show wpAny _ _ (standAt i1.pos >>= _) _ _ s; exact wpAny_bind (wpAny_standAt (wpAny_bind (thn h fun it' s' h' => wpAny_pure ⟨rfl, h'⟩))))
end
/-! ### a turn of a clause in a block -/
/-- what holds at the start of a turn -/
structure At (X : Cx) (pins : List (Addr × Obj)) (fp : List Addr) (tn : Nat → Heap → Prop) (σ : L2.St) (i : Nat) (H : Hp) (s : Shared) : Prop where
  inv : Inv X pins σ H s
  tn : tn i s.heap
  ok : ∀ b ∈ fp, FpOk X pins H b
section
variable {X : Cx} {pins : List (Addr × Obj)} {σ : L2.St} {H : Hp} {s : Shared} {tg : Expr} {ifs : List Expr} {g : TG} {tt : TT} {J : It} {fp : List Addr} {it : Addr} {tn : Nat → Heap → Prop} {i : Nat} {ER : Value → Shared → Prop}
theorem At.stop (hc : X.calm = true) (T : Turn X.prog X.w X.K tg J fp it tn) (a : At X pins fp tn σ i H s) (j : J.stop i H) {stop : Shared → Prop} {go : Bool → Shared → Prop} (h : ∀ s', Inv X pins σ H s' → stop s') :
    Upto (model X.prog X.w) X.A X.env tg ifs (.ref it) ER stop go s :=
  thnF (T.done X rfl rfl rfl hc i pins s σ H (fun _ _ => False) a.inv a.ok a.tn j) fun r s1 ⟨hr, I1⟩ => by
    subst hr
    exact h s1 I1
theorem At.go (hc : X.calm = true) (hE : X.xe = fun _ _ => False) (T : Turn X.prog X.w X.K tg J fp it tn) (hg : PG X tg g) (ht : PTs X ifs tt) (a : At X pins fp tn σ i H s) (j : J.go i H) {stop : Shared → Prop} {go : Bool → Shared → Prop} {P : L2.St → Prop} {B : L2.St → Bool → Hp → Prop}
    (y : ∀ x H', J.yld i H x H' → g x σ H' fun σ2 H2 => P σ2 ∧ tt σ2 H2 (B σ2))
    (h : ∀ b σ2 H3 s3 pl, P σ2 → Inv X (pins ++ pl) σ2 H3 s3 → B σ2 b H3 → (∀ σ' H' s', Inv X (pins ++ pl) σ' H' s' → σ.length = σ'.length → (∀ (k : Nat) v, σ[k]? = some (some v) → σ'[k]? = some (some v)) → At X pins fp tn σ (i + 1) H' s') → go b s3) :
    Upto (model X.prog X.w) X.A X.env tg ifs (.ref it) ER stop go s := by
  refine thnF (T.item X rfl rfl rfl hc i pins s σ H (fun _ _ => False) a.inv a.ok a.tn j) fun r s1 ⟨u, hr, h1⟩ => ?_
  subst hr
  refine thnF h1 fun _ s2 ⟨x, H2, I2, r2, y2, t2, n2⟩ => ?_
  have ob2 := T.obj _ _ t2
  have I2' := I2.pinned (fun b hb => ⟨n2 b hb, (a.ok b hb).2⟩) ob2
  have p1 := hg.run _ s2 σ H2 x u _ I2' r2 (y x H2 y2)
  rw [hE] at p1
  refine thnF p1 fun _ s3 ⟨σ3, H3, I3, hP, q3⟩ => ?_
  have p2 := ht.run _ s3 σ3 H3 _ I3 q3
  rw [hE] at p2
  refine thnF p2 fun b s4 ⟨H4, I4, q4⟩ => h b σ3 H4 s4 _ hP I4 q4 fun σ' H' s' I' hl hk => ?_
  have still : ∀ b ∈ fp, ∀ o, s2.heap.get? b = some o → s'.heap.get? b = some o ∧ H' b = none := fun b hb o e =>
    have z := I'.pin (b, o) (List.mem_append_right _ (List.mem_append_right _ (mem_pinsAt hb e)))
    ⟨z.1, z.2.1⟩
  refine ⟨I'.unpinned.weak hl hk, T.keep _ _ _ t2 fun b hb o e => (still b hb o e).1, fun b hb => ⟨?_, (a.ok b hb).2⟩⟩
  obtain ⟨o, e, _⟩ := ob2 b hb
  exact (still b hb o e).2
end
/-! ### the two loops -/
def tDcIn (D : Addr) (J1 : It) (g1 : TG) (tt1 : TT) (tk tv : TE) (σ1 : L2.St) (vs1 : List Nat) (End : Hp → Prop) (H4 : Hp) : Prop :=
  ∃ W1 : Nat → Nat → Hp → Prop, (∃ m, W1 0 m H4) ∧ ∀ j k H, W1 j k H →
    (J1.stop j H ∧ End H) ∨ (J1.go j H ∧ ∃ Nx1 : Hp → Prop, (∀ H', Nx1 H' → ∃ k', k' < k ∧ W1 (j + 1) k' H') ∧ ∀ x H', J1.yld j H x H' → g1 x σ1 H' fun σ3 H5 => wipe σ3 vs1 = σ1 ∧ tt1 σ3 H5 fun b H6 =>
      if b = true then tk σ3 H6 fun y H7 => tv σ3 H7 fun z H8 => ∃ kvs k, y = kV k ∧ H8 D = some (.dK kvs) ∧ kvs.length < sizeLine ∧ Nx1 (upd H8 D (.dK (putK kvs k z))) else Nx1 H6)
def tDc2 (wi : TI) (g : TG) (tt : TT) (wi1 : TI) (g1 : TG) (tt1 : TT) (tk tv : TE) (vs vs1 : List Nat) : TE := fun σ H Q => wi σ H fun J H1 => ∀ D, H1 D = none → ∃ W : Nat → Nat → Hp → Prop, (∃ m, W 0 m (upd H1 D (.dK []))) ∧ ∀ i m H, W i m H →
  (J.stop i H ∧ Q (.ref D) H) ∨ (J.go i H ∧ ∃ Nx : Hp → Prop, (∀ H', Nx H' → ∃ m', m' < m ∧ W (i + 1) m' H') ∧ ∀ x H', J.yld i H x H' → g x (wipe σ vs) H' fun σ2 H2 => wipe σ2 vs = wipe σ vs ∧ tt σ2 H2 fun b H3 =>
    if b = true then wi1 σ2 H3 fun J1 H4 => tDcIn D J1 g1 tt1 tk tv (wipe σ2 vs1) vs1 Nx H4 else Nx H3)
theorem keeps_wipe {σ σ' : L2.St} {vs : List Nat} (h : wipe σ' vs = σ) : σ.length = σ'.length ∧ ∀ (k : Nat) v, σ[k]? = some (some v) → σ'[k]? = some (some v) := by
  subst h
  exact ⟨wipe_length _ _, fun k v e => (wipe_some e).1⟩
section
variable {X : Cx} {pins : List (Addr × Obj)} {kx vx t0 i0 t1 i1 : Expr} {ifs0 ifs1 : List Expr} {scope : Scope} {pos : Pos} {g1 : TG} {tt1 : TT} {tk tv : TE} {J1 : It} {fp1 : List Addr} {it1 : Addr} {tn1 : Nat → Heap → Prop} {σ1 : L2.St} {vs1 : List Nat} {s : Shared} {H : Hp} {D : Addr} {End : Hp → Prop}
theorem dc_in (hc : X.calm = true) (hE : X.xe = fun _ _ => False) (T1 : Turn X.prog X.w X.K t1 J1 fp1 it1 tn1) (pg1 : PG X t1 g1) (pt1 : PTs X ifs1 tt1) (pk : PE X kx tk) (pv : PE X vx tv) (a : At X pins fp1 tn1 σ1 0 H s) (h : tDcIn D J1 g1 tt1 tk tv σ1 vs1 End H) {n : Nat} {I : Nat → Shared → Prop}
    (fin : ∀ H' s', Inv X pins σ1 H' s' → End H' → ∃ m, m < n ∧ I m s') :
    codeAny (model X.prog X.w) X.A (.compStart (dc2E kx vx t0 i0 t1 i1 ifs0 ifs1 scope pos) 1 (.ref it1) (.ref D) X.env) (fun r s' => ∃ f, r = .ok f ∧ ∃ m, m < n ∧ I m s') s := by
  obtain ⟨W1, ⟨m1, w1⟩, turn1⟩ := h
  have loop : codeAny (model X.prog X.w) X.A (.compLoop (dc2E kx vx t0 i0 t1 i1 ifs0 ifs1 scope pos) 1 (.ref it1) (.ref D) X.env) (fun r s' => ∃ f, r = .ok f ∧ ∃ m, m < n ∧ I m s') s := by
    refine dcLoop1 (fun k s' => ∃ j H', At X pins fp1 tn1 σ1 j H' s' ∧ W1 j k H') ?_ m1 ⟨0, H, a, w1⟩
    rintro k s2 ⟨j, H2, a2, w2⟩
    rcases turn1 j k H2 w2 with ⟨st, e⟩ | ⟨gg, Nx1, hN, step⟩
    · exact a2.stop hc T1 st fun s' I' => ⟨_, rfl, fin _ _ I' e⟩
    · refine a2.go hc hE T1 pg1 pt1 gg (P := fun σ3 => wipe σ3 vs1 = σ1) (step) fun b σ3 H3 s3 pl hP I3 q3 back => ?_
      obtain ⟨k1, k2⟩ := keeps_wipe hP
      have nx : ∀ H' s', Inv X (pins ++ pl) σ3 H' s' → Nx1 H' → ∃ m, m < k ∧ ∃ j H', At X pins fp1 tn1 σ1 j H' s' ∧ W1 j m H' := fun H' s' I' q => by
        obtain ⟨k', hk, w'⟩ := hN H' q
        exact ⟨k', hk, j + 1, H', back σ3 H' s' I' k1 k2, w'⟩
      cases b with
      | false =>
        simp only [Bool.false_eq_true, if_false] at q3 ⊢
        exact nx _ _ I3 q3
      | true =>
        simp only [if_true] at q3 ⊢
        have p1 := pk.run _ s3 σ3 H3 _ I3 q3
        rw [hE] at p1
        refine thnF p1 fun kv s4 ⟨yk, H4, I4, r4, q4⟩ => ?_
        have p2 := pv.run _ s4 σ3 H4 _ I4 q4
        rw [hE] at p2
        refine thnF p2 fun vv s5 ⟨yv, H5, I5, r5, kvs, key, ek, hD, hz, q5⟩ => ?_
        subst ek
        exact d_dictSet I5 hD hz r4 r5 fun s6 I6 => nx _ _ I6 q5
  exact dcStart1 loop (T1.self X.A 0 _ _ _ a.tn loop)
end
section
variable {X : Cx}
theorem keeps_wipe2 {σ σ8 : L2.St} {vs vs1 : List Nat} (hv : ∀ i ∈ vs1, i ∈ vs) (h : wipe σ8 vs = wipe σ vs) : (wipe σ vs).length = (wipe σ8 vs1).length ∧ ∀ (k : Nat) v, (wipe σ vs)[k]? = some (some v) → (wipe σ8 vs1)[k]? = some (some v) := by
  rw [← h]
  refine ⟨by rw [wipe_length, wipe_length], fun k v e => ?_⟩
  obtain ⟨e1, e2⟩ := wipe_some e
  rw [wipe_out fun z => e2 (hv k z)]
  exact e1
theorem dc2_core {pins : List (Addr × Obj)} {s : Shared} {σ : L2.St} {H : Hp} {Q : VK} {kx vx tg iter tg1 iter1 : Expr} {ifs ifs1 : List Expr} {scope : Scope} {own : List (Str × Nat)} {vs1 : List Nat} {pos pos' : Pos} {wi wi1 : TI} {g g1 : TG} {tt tt1 : TT} {tk tv : TE} {use : Option (Value → Sem Unit)} {Qf : Value → Shared → Prop}
    (hc : X.calm = true) (hN : X.N.Nodup) (I : Inv X pins σ H s) (hi : PI X tg iter wi) (ok : BlkOk X.N X.env.scope scope own) (hv : ∀ i ∈ vs1, i ∈ own.map (·.2))
    (hg : ∀ (s : Shared) (H : Hp) (C : Addr) (cl : List (Str × Addr)) (fp : List Addr), PG (X.blk s H scope (compEnvC scope cl C X.env) fp) tg g) (ht : ∀ (s : Shared) (H : Hp) (C : Addr) (cl : List (Str × Addr)) (fp : List Addr), PTs (X.blk s H scope (compEnvC scope cl C X.env) fp) ifs tt)
    (hi1 : ∀ (s : Shared) (H : Hp) (C : Addr) (cl : List (Str × Addr)) (fp : List Addr), PI (X.blk s H scope (compEnvC scope cl C X.env) fp) tg1 iter1 wi1)
    (hg1 : ∀ (s : Shared) (H : Hp) (C : Addr) (cl : List (Str × Addr)) (fp : List Addr), PG (X.blk s H scope (compEnvC scope cl C X.env) fp) tg1 g1)
    (ht1 : ∀ (s : Shared) (H : Hp) (C : Addr) (cl : List (Str × Addr)) (fp : List Addr), PTs (X.blk s H scope (compEnvC scope cl C X.env) fp) ifs1 tt1)
    (hk : ∀ (s : Shared) (H : Hp) (C : Addr) (cl : List (Str × Addr)) (fp : List Addr), PE (X.blk s H scope (compEnvC scope cl C X.env) fp) kx tk)
    (he : ∀ (s : Shared) (H : Hp) (C : Addr) (cl : List (Str × Addr)) (fp : List Addr), PE (X.blk s H scope (compEnvC scope cl C X.env) fp) vx tv)
    (hs : ∀ x, foldedSetIterable iter X.env x = pure x) (hs1 : ∀ env x, foldedSetIterable iter1 env x = pure x)
    (h : tDc2 wi g tt wi1 g1 tt1 tk tv (own.map (·.2)) vs1 σ H Q)
    (hQ : ∀ D C s' m H', Inv X pins σ H' s' → Q (.ref D) H' → s'.heap.Ns C m → FpOk X pins H' C → compPost (model X.prog X.w) X.A X.xe use Qf (.ref D) C (.ok .next) s') :
    wpAny (model X.prog X.w) X.A (comprehension (dc2E kx vx tg iter tg1 iter1 ifs ifs1 scope pos) scope X.env pos' newDict false (eval iter X.env) use) Qf X.xe s := by
  have hcl : ∀ y ∈ scope.names, y.2 = .free → ∃ c, X.env.cells.lookup y.1 = some c := fun y hy e =>
    (ok.free y hy e).elim (fun k => I.ok.has _ (.inl k)) fun k => I.ok.has _ (.inr k)
  refine wpAny_comprehension_free (use := use) rfl hs (closure_ok hcl) ok.kind (fun y hy e => by rw [ok.uniq y hy, e]) (thn (hi.run pins s σ H _ I h) fun xv s1 hx => thn hx fun itv s2 ⟨it, fp, tn, J, H2, e, I2, T, t2, f2, q⟩ => ?_)
  subst e
  refine wpAny_newObj_type (newEnv_comp ?_)
  obtain ⟨W, ⟨m0, w0⟩, turn⟩ := q s2.heap.objs.size (I2.hok.fresh (Nat.le_refl _))
  have I3 : Inv X pins σ (upd H2 s2.heap.objs.size (.dK [])) { s2 with heap := s2.heap.push { cls := .type "dict", data := .dict #[] } } :=
    I2.laid (t' := s2.toks) (fun b o e => Heap.get?_push_of_some _ e) (Nat.le_refl _) (dk_empty s2.heap I2.big)
  have fpOk : ∀ b ∈ fp, FpOk X pins (upd H2 s2.heap.objs.size (.dK [])) b ∧ b < (s2.heap.push { cls := .type "dict", data := .dict #[] }).objs.size := fun b hb => by
    obtain ⟨o, e, _⟩ := T.obj _ _ t2 b hb
    have hlt := Heap.lt_size e
    refine ⟨⟨?_, (f2 b hb).2⟩, by rw [Heap.size_push]; exact Nat.lt_succ_of_lt hlt⟩
    rw [upd_ne (Nat.ne_of_lt hlt)]
    exact (f2 b hb).1
  have t3 : tn 0 (s2.heap.push { cls := .type "dict", data := .dict #[] }) := T.keep _ _ _ t2 fun b _ o e => Heap.get?_push_of_some _ e
  generalize upd H2 s2.heap.objs.size (.dK []) = H3 at I3 fpOk w0
  generalize s2.heap.objs.size = D at turn I3 fpOk w0 ⊢
  generalize hs3 : ({ s2 with heap := s2.heap.push { cls := .type "dict", data := .dict #[] } } : Shared) = s3 at I3 ⊢
  have e3 : s3.heap = s2.heap.push { cls := .type "dict", data := .dict #[] } := by rw [← hs3]
  rw [← e3] at fpOk t3
  have I4 := block_start I3 ok hN fpOk
  have pg := hg s3 H3 s3.heap.objs.size (cellsFrom (s3.heap.objs.size + 1) scope.names (cloFrom X.env.cells scope.names [])) fp
  have pt := ht s3 H3 s3.heap.objs.size (cellsFrom (s3.heap.objs.size + 1) scope.names (cloFrom X.env.cells scope.names [])) fp
  have pi1 := hi1 s3 H3 s3.heap.objs.size (cellsFrom (s3.heap.objs.size + 1) scope.names (cloFrom X.env.cells scope.names [])) fp
  have pg1 := hg1 s3 H3 s3.heap.objs.size (cellsFrom (s3.heap.objs.size + 1) scope.names (cloFrom X.env.cells scope.names [])) fp
  have pt1 := ht1 s3 H3 s3.heap.objs.size (cellsFrom (s3.heap.objs.size + 1) scope.names (cloFrom X.env.cells scope.names [])) fp
  have pk := hk s3 H3 s3.heap.objs.size (cellsFrom (s3.heap.objs.size + 1) scope.names (cloFrom X.env.cells scope.names [])) fp
  have pv := he s3 H3 s3.heap.objs.size (cellsFrom (s3.heap.objs.size + 1) scope.names (cloFrom X.env.cells scope.names [])) fp
  show codeAny _ _ (.compStart (dc2E kx vx tg iter tg1 iter1 ifs ifs1 scope pos) 0 (.ref it) (.ref D) (compEnvC scope (cellsFrom (s3.heap.objs.size + 1) scope.names (cloFrom X.env.cells scope.names [])) s3.heap.objs.size X.env)) (compPost (model X.prog X.w) X.A X.xe use Qf (.ref D) s3.heap.objs.size) { s3 with heap := pushCells (s3.heap.push { cls := .type "dict", data := .dict #[] }) scope.names }
  generalize hce : compEnvC scope (cellsFrom (s3.heap.objs.size + 1) scope.names (cloFrom X.env.cells scope.names [])) s3.heap.objs.size X.env = ce at I4 pg pt pk pv pi1 pg1 pt1 ⊢
  have cL : ce.locals = s3.heap.objs.size := by subst hce; rfl
  generalize hs4 : ({ s3 with heap := pushCells (s3.heap.push { cls := .type "dict", data := .dict #[] }) scope.names } : Shared) = s4 at I4 ⊢
  have t4 : tn 0 s4.heap := T.keep _ _ _ t3 fun b _ o e => by rw [← hs4]; exact pushCells_keeps _ _ _ _ (Heap.get?_push_of_some _ e)
  have a4 : At (X.blk s3 H3 scope ce fp) [] fp tn (wipe σ (own.map (·.2))) 0 H3 s4 := ⟨I4, t4, fun b hb =>
    ⟨(fpOk b hb).1.1, (I4.ok.exf b hb).1, I4.ok.exfs b hb, .inl hb, fun x c e => (I4.ok.exf b hb).2 x c e, fun p hp => absurd (show p ∈ ([] : List (Addr × Obj)) ++ [] from hp) (by simp)⟩⟩
  have loop : codeAny (model X.prog X.w) X.A (.compLoop (dc2E kx vx tg iter tg1 iter1 ifs ifs1 scope pos) 0 (.ref it) (.ref D) ce) (compPost (model X.prog X.w) X.A X.xe use Qf (.ref D) s3.heap.objs.size) s4 := by
    refine dcLoop0 (hs1 ce) (fun n s' => ∃ i H', At (X.blk s3 H3 scope ce fp) [] fp tn (wipe σ (own.map (·.2))) i H' s' ∧ W i n H') ?_ m0 ⟨0, H3, a4, w0⟩
    rintro n s5 ⟨i, H5, a5, w5⟩
    rcases turn i n H5 w5 with ⟨st, qq⟩ | ⟨gg, Nx, hN', step⟩
    · refine At.stop (X := X.blk s3 H3 scope ce fp) hc T a5 st fun s6 I6 => ?_
      have I7 : Inv X pins σ H5 s6 := I3.call' (ch := fp) I6.os I6.base I6.hok I6.bare fun b hb => ⟨(fpOk b hb).1.2.2.2.1, (fpOk b hb).1.2.1, (fpOk b hb).1.2.2.2.2.1, (fpOk b hb).1.2.2.2.2.2⟩
      have nC : H5 s3.heap.objs.size = none := by
        have z : H5 ce.locals = none := I6.free
        rwa [cL] at z
      obtain ⟨m, hn, _⟩ := I6.loc
      have hn : s6.heap.Ns ce.locals m := hn
      rw [cL] at hn
      exact hQ D _ _ m H5 I7 qq hn (I3.fpOk (Nat.le_refl _) nC)
    · refine At.go (X := X.blk s3 H3 scope ce fp) hc rfl T pg pt a5 gg (P := fun σ8 => wipe σ8 (own.map (·.2)) = wipe σ (own.map (·.2))) step fun b σ8 H8 s8 pl hP I8 q8 back => ?_
      have fin : ∀ σ9 H' s', Inv (X.blk s3 H3 scope ce fp) ([] ++ pl) σ9 H' s' → (wipe σ (own.map (·.2))).length = σ9.length → (∀ (k : Nat) v, (wipe σ (own.map (·.2)))[k]? = some (some v) → σ9[k]? = some (some v)) → Nx H' → ∃ m, m < n ∧ ∃ i H', At (X.blk s3 H3 scope ce fp) [] fp tn (wipe σ (own.map (·.2))) i H' s' ∧ W i m H' := fun σ9 H' s' I' l1 l2 q => by
        obtain ⟨m', hm, w'⟩ := hN' H' q
        exact ⟨m', hm, i + 1, H', back σ9 H' s' I' l1 l2, w'⟩
      cases b with
      | false =>
        simp only [Bool.false_eq_true, if_false] at q8 ⊢
        obtain ⟨k1, k2⟩ := keeps_wipe hP
        exact fin _ _ _ I8 k1 k2 q8
      | true =>
        simp only [if_true] at q8 ⊢
        refine thnF (pi1.run _ s8 σ8 H8 _ I8 q8) fun xv s9 hx => thnF hx fun itv s10 ⟨it1, fp1, tn1, J1, H10, e1, I10, T1, t10, f10, q10⟩ => ?_
        subst e1
        obtain ⟨k1, k2⟩ := keeps_wipe2 hv hP
        refine dc_in (X := X.blk s3 H3 scope ce fp) hc rfl T1 pg1 pt1 pk pv ⟨I10.weak (wipe_length _ _) (fun j v e => (wipe_some e).1), t10, f10⟩ q10 fun H' s' I' q => fin _ _ _ I' k1 k2 q
  exact codeAny_compStart_dict loop (T.self X.A 0 _ _ _ t4 loop)
theorem pe_dc2 {kx vx tg iter tg1 iter1 : Expr} {ifs ifs1 : List Expr} {scope : Scope} {own : List (Str × Nat)} {vs1 : List Nat} {pos : Pos} {wi wi1 : TI} {g g1 : TG} {tt tt1 : TT} {tk tv : TE} (hc : X.calm = true) (hN : X.N.Nodup) (hi : PI X tg iter wi) (ok : BlkOk X.N X.env.scope scope own) (hv : ∀ i ∈ vs1, i ∈ own.map (·.2))
    (hg : ∀ (s : Shared) (H : Hp) (C : Addr) (cl : List (Str × Addr)) (fp : List Addr), PG (X.blk s H scope (compEnvC scope cl C X.env) fp) tg g) (ht : ∀ (s : Shared) (H : Hp) (C : Addr) (cl : List (Str × Addr)) (fp : List Addr), PTs (X.blk s H scope (compEnvC scope cl C X.env) fp) ifs tt)
    (hi1 : ∀ (s : Shared) (H : Hp) (C : Addr) (cl : List (Str × Addr)) (fp : List Addr), PI (X.blk s H scope (compEnvC scope cl C X.env) fp) tg1 iter1 wi1)
    (hg1 : ∀ (s : Shared) (H : Hp) (C : Addr) (cl : List (Str × Addr)) (fp : List Addr), PG (X.blk s H scope (compEnvC scope cl C X.env) fp) tg1 g1)
    (ht1 : ∀ (s : Shared) (H : Hp) (C : Addr) (cl : List (Str × Addr)) (fp : List Addr), PTs (X.blk s H scope (compEnvC scope cl C X.env) fp) ifs1 tt1)
    (hk : ∀ (s : Shared) (H : Hp) (C : Addr) (cl : List (Str × Addr)) (fp : List Addr), PE (X.blk s H scope (compEnvC scope cl C X.env) fp) kx tk)
    (he : ∀ (s : Shared) (H : Hp) (C : Addr) (cl : List (Str × Addr)) (fp : List Addr), PE (X.blk s H scope (compEnvC scope cl C X.env) fp) vx tv)
    (hs : ∀ x, foldedSetIterable iter X.env x = pure x := by intro _; rfl) (hs1 : ∀ env x, foldedSetIterable iter1 env x = pure x := by intro _ _; rfl) :
    PE X (dc2E kx vx tg iter tg1 iter1 ifs ifs1 scope pos) (tDc2 wi g tt wi1 g1 tt1 tk tv (own.map (·.2)) vs1) := by
  refine ⟨fun pins s σ H Q I h => ?_⟩
  rw [arm_eval_DictComp]
  refine dc2_core hc hN I hi ok hv hg ht hi1 hg1 ht1 hk he hs hs1 h fun D C s' m H' I' q hn f => ⟨m, hn, fun h'' sb => ?_⟩
  obtain ⟨f0, f1, f2, f3, f4, f5⟩ := f
  exact ⟨.ref D, H', I'.turned (t' := s'.toks) (fun b o hb e => (sb.2 b hb).trans e) f0 f1 f3 f4 f5, rfl, q⟩
end
end DL

set_option maxHeartbeats 4000000
/-! dict comprehensions of two clauses, on data -/
namespace DL
open PySem PySem.Spec PyProof.Rows L2
theorem dc2_of {K : PySem.W.Frag} {W : WZ} {O vs vs1 : List Nat} {fi fi1 : IF} {g gg : GF} {t t1 : TG} {fc fc1 fk fv : EF} (hgo : GOk K O g t) (ho : TOwn t vs) (hgo1 : GOk K O gg t1) (ho1 : TOwn t1 vs1) (hO : ∀ i, i ∈ vs → i ∉ O) (hO1 : ∀ i, i ∈ vs1 → i ∉ O) :
    ∀ σ H Q, rd K .f W O (eDc2 vs vs1 fi g fc fi1 gg fc1 fk fv) σ H Q → tDc2 (rdI K W O fi) t (rdT K W.no O fc) (rdI K W.no O fi1) t1 (rdT K W.no O fc1) (rd K .e W.no O fk) (rd K .e W.no O fv) vs vs1 σ H Q := by
  rintro σ H Q ⟨ent, w, ρ, S, r, p⟩
  refine ⟨ent, w, ρ, S, r, ?_⟩
  unfold eDc2 at p
  cases e1 : fi ρ S with
  | stuck => rw [e1] at p; exact p
  | exn x S1 => rw [e1] at p; exact p
  | ok ds S1 =>
    rw [e1] at p
    intro J H1 w1 x1 g1 hJ hz L hL
    have r1 := (r.later x1 g1).wipe vs hO
    refine ⟨fun i m H => m = ds.length - i ∧ i ≤ ds.length ∧ ∃ w2 acc S2, Ext w1 H1 w2 H ∧ Gd K w2 H S2 ∧ Own K w2 H (.dct acc) L ∧ Post K .f w1 H1 W σ (dcD2 g fc fi1 vs1 gg fc1 fk fv (ds.drop i) acc (wipeD ρ vs) S2) Q, ⟨ds.length, by simp, Nat.zero_le _, w1, [], S1, Ext.newO w1 hL, g1.newO hL, ⟨g1.noneF hL, g1.nophi hL, [], upd_same, .nil⟩, by simpa using Post.later (r := dcD2 g fc fi1 vs1 gg fc1 fk fv ds [] (wipeD ρ vs) S1) x1 p⟩, ?_⟩
    rintro i m H2 ⟨rfl, hi, w2, acc, S2, x2, g2, o2, p2⟩
    obtain ⟨j1, j2⟩ := hJ w2 H2 S2 i x2.le g2
    by_cases hlt : i < ds.length
    · obtain ⟨jg, jy⟩ := j1 ds[i] (List.getElem?_eq_getElem hlt)
      refine .inr ⟨jg, fun H' => ∃ w' acc' S', Ext w1 H1 w' H' ∧ Gd K w' H' S' ∧ Own K w' H' (.dct acc') L ∧ Post K .f w1 H1 W σ (dcD2 g fc fi1 vs1 gg fc1 fk fv (ds.drop (i + 1)) acc' (wipeD ρ vs) S') Q,
        fun H' ⟨w', acc', S', q1, q2, q3, q5⟩ => ⟨ds.length - (i + 1), by omega, rfl, hlt, w', acc', S', q1, q2, q3, q5⟩, fun x H3 y => ?_⟩
      obtain ⟨w3, x3, g3, z3⟩ := jy x H3 y
      rw [List.drop_eq_getElem_cons hlt] at p2
      unfold dcD2 at p2
      have r3 : R K ent O w3 H3 (L2.wipe σ vs) (wipeD ρ vs) S2 := r1.later (x2.trans x3) g3
      cases e2 : g ds[i] (wipeD ρ vs) with
      | none => rw [e2] at p2; exact p2.elim
      | some ρ3 =>
        rw [e2] at p2
        dsimp only at p2
        refine ho.wiped (hgo.ok r3 z3 e2 fun σ3 s3' r3' => ?_)
        refine ⟨ent, w3, ρ3, S2, r3', ?_⟩
        have o3 : Own K w3 H3 (.dct acc) L := o2.ext x3
        cases e3 : fc ρ3 S2 with
        | stuck => rw [e3] at p2; exact p2.elim
        | exn y S3 => rw [e3] at p2; exact p2.elim
        | ok c S3 =>
          rw [e3] at p2
          cases c with
          | bl b =>
            refine ⟨b, rfl, fun H4 w4 x4 g4 => ?_⟩
            cases b with
            | false =>
              rw [if_neg Bool.false_ne_true]
              exact ⟨w4, acc, S3, x2.trans (x3.trans x4), g4, o3.ext x4, p2⟩
            | true =>
              rw [if_pos rfl]
              dsimp only at p2
              refine ⟨ent, w4, ρ3, S3, r3'.later x4 g4, ?_⟩
              cases e4 : fi1 ρ3 S3 with
              | stuck => rw [e4] at p2; exact p2.elim
              | exn y S4 => rw [e4] at p2; exact p2.elim
              | ok es S4 =>
                rw [e4] at p2
                intro J1 H5 w5 x5 g5 hJ1 hz1
                have o5 : Own K w5 H5 (.dct acc) L := (o3.ext x4).ext x5
                have r5 := ((r3'.later x4 g4).later x5 g5).wipe vs1 hO1
                have entL : Nb (ent.H L) := by
                  exact (r.ext.trans x1).there L (.inl hL)
                have nL : ∀ n, n ∈ O → (∃ d, (wipeD ρ3 vs1)[n]? = some (some d)) → (L2.wipe σ3 vs1)[n]? ≠ some (some (.ref L)) := fun n hn ⟨d, hd⟩ hs => by
                  obtain ⟨b, s1, s2, _⟩ := r5.own n d hd hn
                  rw [hs] at s1; cases s1
                  have s3 : (L2.wipe σ3 vs1)[n]? = σ3[n]? := by rw [wipe_get, if_neg (fun z => hO1 n z hn)]
                  have s4 : (L2.wipe σ vs)[n]? = σ[n]? := by rw [wipe_get, if_neg (fun z => hO n z hn)]
                  have s5 : σ[n]? = some (some (.ref L)) := by rw [← s4, ← s3' n hn, ← s3]; exact hs
                  obtain ⟨d0, hd0⟩ : ∃ d, ρ[n]? = some (some d) := ⟨d, by
                    rw [wipeD_out (fun z => hO1 n z hn), hgo.env _ _ _ e2 n hn, wipeD_out (fun z => hO n z hn)] at hd
                    exact hd⟩
                  obtain ⟨b, u1, u2, _⟩ := (r.later x1 g1).own n d0 hd0 hn
                  rw [s5] at u1; cases u1
                  exact u2.there hL
                refine ⟨fun j k H => k = es.length - j ∧ j ≤ es.length ∧ ∃ w6 acc6 S6, Ext w1 H1 w6 H ∧ Own K w6 H (.dct acc6) L ∧ R K ent O w6 H (L2.wipe σ3 vs1) (wipeD ρ3 vs1) S6 ∧ Le w5 w6 ∧
                    Post K .f w1 H1 W σ (match dcDs gg fc1 fk fv (es.drop j) acc6 (wipeD ρ3 vs1) S6 with
                      | .ok (.dct acc') S3 => dcD2 g fc fi1 vs1 gg fc1 fk fv (ds.drop (i + 1)) acc' (wipeD ρ vs) S3
                      | _ => .stuck) Q, ⟨es.length, by simp, Nat.zero_le _, w5, acc, S4, x2.trans (x3.trans (x4.trans x5)), o5, r5, .refl _, by simpa using p2⟩, ?_⟩
                rintro j k H6 ⟨rfl, hj, w6, acc6, S6, x6, o6, r6, l6, p6⟩
                obtain ⟨k1, k2⟩ := hJ1 w6 H6 S6 j l6 r6.gd
                by_cases hlj : j < es.length
                · obtain ⟨kg, ky⟩ := k1 es[j] (List.getElem?_eq_getElem hlj)
                  refine .inr ⟨kg, fun H' => ∃ w6 acc6 S6, Ext w1 H1 w6 H' ∧ Own K w6 H' (.dct acc6) L ∧ R K ent O w6 H' (L2.wipe σ3 vs1) (wipeD ρ3 vs1) S6 ∧ Le w5 w6 ∧
                    Post K .f w1 H1 W σ (match dcDs gg fc1 fk fv (es.drop (j + 1)) acc6 (wipeD ρ3 vs1) S6 with
                      | .ok (.dct acc') S3 => dcD2 g fc fi1 vs1 gg fc1 fk fv (ds.drop (i + 1)) acc' (wipeD ρ vs) S3
                      | _ => .stuck) Q, fun H' ⟨w', acc', S', q1, q2, q3, q4, q5⟩ => ⟨es.length - (j + 1), by omega, rfl, hlj, w', acc', S', q1, q2, q3, q4, q5⟩, fun x' H7 y' => ?_⟩
                  obtain ⟨w7, x7, g7, z7⟩ := ky x' H7 y'
                  rw [List.drop_eq_getElem_cons hlj] at p6
                  unfold dcDs at p6
                  cases e5 : gg es[j] (wipeD ρ3 vs1) with
                  | none => rw [e5] at p6; exact p6.elim
                  | some ρ7 =>
                    rw [e5] at p6
                    dsimp only at p6
                    refine ho1.wiped (hgo1.ok (r6.later x7 g7) z7 e5 fun σ7 _ r7 => ?_)
                    refine ⟨ent, w7, ρ7, S6, r7, ?_⟩
                    cases e6 : fc1 ρ7 S6 with
                    | stuck => rw [e6] at p6; exact p6.elim
                    | exn y S7 => rw [e6] at p6; exact p6.elim
                    | ok c S7 =>
                      rw [e6] at p6
                      cases c with
                      | bl b =>
                        refine ⟨b, rfl, fun H8 w8 x8 g8 => ?_⟩
                        cases b with
                        | false =>
                          rw [if_neg Bool.false_ne_true]
                          exact ⟨w8, acc6, S7, x6.trans (x7.trans x8), (o6.ext x7).ext x8, (r6.later x7 g7).later x8 g8, l6.trans (x7.le.trans x8.le), p6⟩
                        | true =>
                          rw [if_pos rfl]
                          dsimp only at p6
                          refine ⟨ent, w8, ρ7, S7, r7.later x8 g8, ?_⟩
                          cases e7 : fk ρ7 S7 with
                          | stuck => rw [e7] at p6; exact p6.elim
                          | exn y S8 => rw [e7] at p6; exact p6.elim
                          | ok dk S8 =>
                            rw [e7] at p6
                            dsimp only at p6
                            intro yk H9 w9 x9 g9 z9
                            refine ⟨ent, w9, ρ7, S8, (r7.later x8 g8).later x9 g9, ?_⟩
                            cases e8 : fv ρ7 S8 with
                            | stuck => rw [e8] at p6; exact p6.elim
                            | exn y S9 => rw [e8] at p6; exact p6.elim
                            | ok dv S9 =>
                              rw [e8] at p6
                              dsimp only at p6
                              intro yv Ha wa xa ga za
                              cases e9 : kOf dk with
                              | none => rw [e9] at p6; exact p6.elim
                              | some kk =>
                                rw [e9] at p6
                                dsimp only at p6
                                have oa : Own K wa Ha (.dct acc6) L := (((o6.ext x7).ext x8).ext x9).ext xa
                                obtain ⟨f1, f2, us, f3, f4⟩ := oa
                                have vk := (z9.ext (H1 := H9) (.refl _ _)).vw g9
                                rw [deref_kOf e9] at vk
                                have ey := kOf_vw vk e9
                                rw [kD_kOf e9] at p6
                                by_cases hlim : acc6.length < LIM
                                · rw [if_pos hlim] at p6
                                  refine ⟨us, kk, ey, f3, by rw [← f4.length]; exact lim_size hlim, wa, _, S9, (x6.trans (x7.trans (x8.trans (x9.trans xa)))).updO hL, ⟨f1, f2, _, upd_same, f4.put za⟩, ?_, l6.trans (x7.le.trans (x8.le.trans (x9.le.trans xa.le))), p6⟩
                                  exact ((((r6.later x7 g7).later x8 g8).later x9 g9).later xa ga).updL (fun fs z => by rw [f3] at z; cases z) f1 f2 (pd_dK f3) entL nL
                                · rw [if_neg hlim] at p6; exact p6.elim
                      | _ => exact p6.elim
                · have ej : j = es.length := by omega
                  subst ej
                  refine .inl ⟨k2 rfl, ?_⟩
                  rw [List.drop_length] at p6
                  exact ⟨w6, acc6, S6, x6, r6.gd, o6, p6⟩
          | _ => exact p2.elim
    · have ei : i = ds.length := by omega
      subst ei
      refine .inl ⟨j2 rfl, ?_⟩
      rw [List.drop_length] at p2
      exact p2 _ H2 w2 x2 g2 ⟨L, rfl, hL, o2⟩
section
variable {X : Cx} {W : WZ} {O : List Nat} {kx vx tg iter tg1 iter1 : Expr} {ifs ifs1 : List Expr} {scope : Scope} {own : List (Str × Nat)} {vs1 : List Nat} {pos : Pos} {fi fi1 : IF} {g gg : GF} {t t1 : TG} {fc fc1 fk fv : EF}
theorem de_dc2 (hN : X.N.Nodup) (ok : BlkOk X.N X.env.scope scope own) (hv : ∀ i, i ∈ vs1 → i ∈ own.map (·.2)) (hi : DI X W O tg iter fi)
    (hgo : GOk X.K O g t) (hg : ∀ (s : Shared) (H : Hp) (C : Addr) (cl : List (Str × Addr)) (fp : List Addr), PG (X.blk s H scope (compEnvC scope cl C X.env) fp) tg t) (ho : TOwn t (own.map (·.2)))
    (ht : ∀ (s : Shared) (H : Hp) (C : Addr) (cl : List (Str × Addr)) (fp : List Addr), DCs (X.blk s H scope (compEnvC scope cl C X.env) fp) W O ifs fc)
    (hi1 : ∀ (s : Shared) (H : Hp) (C : Addr) (cl : List (Str × Addr)) (fp : List Addr), DI (X.blk s H scope (compEnvC scope cl C X.env) fp) W.no O tg1 iter1 fi1)
    (hgo1 : GOk X.K O gg t1) (hg1 : ∀ (s : Shared) (H : Hp) (C : Addr) (cl : List (Str × Addr)) (fp : List Addr), PG (X.blk s H scope (compEnvC scope cl C X.env) fp) tg1 t1) (ho1 : TOwn t1 vs1)
    (ht1 : ∀ (s : Shared) (H : Hp) (C : Addr) (cl : List (Str × Addr)) (fp : List Addr), DCs (X.blk s H scope (compEnvC scope cl C X.env) fp) W O ifs1 fc1)
    (hk : ∀ (s : Shared) (H : Hp) (C : Addr) (cl : List (Str × Addr)) (fp : List Addr), DE .e (X.blk s H scope (compEnvC scope cl C X.env) fp) W.no O kx fk)
    (he : ∀ (s : Shared) (H : Hp) (C : Addr) (cl : List (Str × Addr)) (fp : List Addr), DE .e (X.blk s H scope (compEnvC scope cl C X.env) fp) W.no O vx fv)
    (hO : ∀ i, i ∈ own.map (·.2) → i ∉ O := by decide) (hO1 : ∀ i, i ∈ vs1 → i ∉ O := by decide) (hc : X.calm = true := by rfl) (hs : ∀ x, foldedSetIterable iter X.env x = pure x := by intro _; rfl) (hs1 : ∀ env x, foldedSetIterable iter1 env x = pure x := by intro _ _; rfl) :
    DE .f X W O (.DictComp kx vx [⟨tg, iter, ifs, 0⟩, ⟨tg1, iter1, ifs1, 0⟩] scope pos) (eDc2 (own.map (·.2)) vs1 fi g fc fi1 gg fc1 fk fv) :=
  ⟨(pe_dc2 (pos := pos) (tt := rdT X.K W.no O fc) (tt1 := rdT X.K W.no O fc1) (tk := rd X.K .e W.no O fk) (tv := rd X.K .e W.no O fv) (wi1 := rdI X.K W.no O fi1) hc hN hi.pi ok hv hg (fun s H C cl fp => (ht s H C cl fp).pts) (fun s H C cl fp => (hi1 s H C cl fp).pi) hg1 (fun s H C cl fp => (ht1 s H C cl fp).pts) (fun s H C cl fp => (hk s H C cl fp).pe) (fun s H C cl fp => (he s H C cl fp).pe) hs hs1).imp (dc2_of hgo ho hgo1 ho1 hO hO1)⟩
end
section
variable {X : Cx} {W : WZ} {O : List Nat} {kx vx tg iter : Expr} {ifs : List Expr} {scope : Scope} {own : List (Str × Nat)} {pos : Pos} {fi : IF} {g : GF} {t : TG} {fc fk fv : EF}
end
end DL

set_option maxHeartbeats 4000000
/-! set(t), t a tuple of texts -/
namespace DL
open PySem PySem.Spec PyProof.Rows L2 PySem.Froz
section
variable {P : Program} {w : World} {A : Around} {E : Value → Shared → Prop} {s : Shared}
theorem call_setXT {b : Addr} {its : Array Value} {xs : List Str} {Q : Value → Shared → Prop} (hh : A.handled = none) (hl : s.heap.IsTuple b its) (hi : StrsAre its.toList xs) (h1 : xs.length < 1000)
    (h : ∀ (h' : Heap) (tk : Nat), SX P w h' s.heap.objs.size (metS [] xs) → (∀ c o, s.heap.get? c = some o → h'.get? c = some o) → Q (.ref s.heap.objs.size) { s with heap := h', toks := tk }) :
    wpAny (model P w) A (call (.type "set") [.ref b]) Q E s := by
  refine callType_run (Q1 := fun obj s1 => obj = .ref s.heap.objs.size ∧ s1 = { s with heap := s.heap.push { cls := .type "set", dict := none, data := .set #[] 0 (.fresh 0 0 (!w.params.followText "set-order")) } }) PySem.F.called_set (PySem.F.typeCall_set_1 _) PySem.F.entry_set_init (code_set_led1 _ ⟨rfl, rfl⟩) fun obj s1 q => ?_
  obtain ⟨rfl, rfl⟩ := q
  generalize hO : ({ cls := .type "set", dict := none, data := .set #[] 0 (.fresh 0 0 (!w.params.followText "set-order")) } : Obj) = O0
  have at0 : (s.heap.push O0).get? s.heap.objs.size = some O0 := Heap.get?_push_size _ (by rw [← hO]; rfl)
  have ty : Shared.TypeIs { s with heap := s.heap.push O0 } (.ref s.heap.objs.size) "set" := ⟨O0, at0, by rw [← hO]⟩
  refine ⟨ty, fun A' Q' E' q => check_set_init_1 ty q, ?_⟩
  obtain ⟨⟨lc, ld, ldt, ls⟩, e1, e2, k, e3⟩ := hl
  simp only at e2 e3
  subst e2 e3
  have e1' : (s.heap.push O0).get? b = some { cls := .type "tuple", dict := ld, data := .seq its k, slots := ls } := Heap.get?_push_of_some _ e1
  have isl : (s.heap.push O0).IsTuple b its := ⟨_, e1', rfl, k, rfl⟩
  have blt : b < s.heap.objs.size := Heap.lt_size e1
  have sz1 : (s.heap.push O0).objs.size = s.heap.objs.size + 1 := Heap.size_push ..
  have ni : b ≠ (s.heap.push O0).objs.size := fun z => absurd blt (by rw [z, sz1]; exact Nat.not_lt_of_le (Nat.le_succ _))
  have nf : s.heap.objs.size ∉ [(s.heap.push O0).objs.size, b] := by
    rw [sz1]
    simp only [List.mem_cons, List.not_mem_nil, or_false, not_or]
    exact ⟨Nat.ne_of_lt (Nat.lt_succ_self _), Nat.ne_of_gt blt⟩
  subst hO
  have f1 := PySem.F.sub_tuple_set; have f2 := PySem.F.sub_tuple_frozenset
  have f3 : (Value.type "tuple" == Value.type "dict") = false := by decide
  unfold Builtin.«set.__init__» noKeywords Builtin.Frozenset.updateFrom
  generalize hp : pyIter = PI
  wp_walk
  subst hp
  refine wpAny_pyIter_tuple isl ?_
  refine wpAny_bind (m := runValue _) (wpAny_runValue ?_)
  have hn : xs.length = its.size := by rw [← Array.length_toList, ← StrsAre.len_eq hi]
  refine sx_loop ((Walks.tuple (by simp [hh]) _ b ni its).toS) s.heap.objs.size nf xs hn (by omega) (fun i v e => SS.strs_at hi i v (by rw [Array.getElem?_toList]; exact e)) its.size 0 _ (by omega) ⟨⟨_, Heap.get?_push_size _ rfl, rfl, rfl⟩, isl.push _⟩ ?_ fun s' mv sx => ?_
  · refine ⟨(#[], 0, .fresh 0 0 (!w.params.followText "set-order")), ?_, TxOk.nil rfl, List.Pairwise.nil, ?_, List.nodup_nil⟩
    · exact Heap.get?_push_of_some _ (Heap.get?_push_size _ rfl)
    · show _ ∨ (!w.params.followText "set-order") = true
      cases w.params.followText "set-order"
      · exact .inr rfl
      · exact .inl rfl
  · obtain ⟨h', g', d', tk', os'⟩ := s'
    obtain rfl : g' = s.gens := mv.gens
    obtain rfl : d' = s.drawn := mv.drawn
    obtain rfl : os' = s.os := mv.os
    refine wpAny_pure (wpAny_pure ⟨_, rfl, rfl, h h' tk' sx fun c o e => ?_⟩)
    have hc : c < s.heap.objs.size := Heap.lt_size e
    refine mv.heap c o (fun z => ?_) (Heap.get?_push_of_some _ (Heap.get?_push_of_some _ e))
    simp only [List.mem_cons, List.not_mem_nil, or_false] at z
    rcases z with z | z
    · exact absurd hc (by rw [z]; exact Nat.lt_irrefl _)
    · rw [sz1] at z
      exact absurd hc (by rw [z]; exact Nat.not_lt_of_le (Nat.le_succ _))
end
def srtSetA (d : D) : Option D := (txtsA d).map fun l => .lst ((srtS (metS [] l)).map D.str)
def SqX (K : PySem.W.Frag) (H : Hp) (a : Addr) (vs : List V) : Prop := SqL K H a vs ∨ SqT K H a vs
theorem vw_txtsA {K : PySem.W.Frag} {w : Wit} {H : Hp} (hs : ∀ a o, w.F a = some o → H a = some o) {d : D} {v : V} {l : List Str} (h : Vw K w H d v) (e : txtsA d = some l) : ∃ a, v = .ref a ∧ SqX K H a (l.map V.str) ∧ l.length < 1000 := by
  cases h with
  | @lst a vs ds hq r =>
    simp only [txtsA] at e
    cases e2 : strsF ds with
    | none => rw [e2] at e; cases e
    | some l2 =>
      rw [e2] at e
      simp only [Option.bind] at e
      split at e
      case isFalse => cases e
      rename_i hl
      cases e
      exact ⟨a, rfl, .inl (by rw [← strs_rep r e2]; exact hq), hl⟩
  | @tup a vs ds hq r =>
    simp only [txtsA] at e
    cases e2 : strsF ds with
    | none => rw [e2] at e; cases e
    | some l2 =>
      rw [e2] at e
      simp only [Option.bind] at e
      split at e
      case isFalse => cases e
      rename_i hl
      cases e
      exact ⟨a, rfl, .inr (by rw [← strs_rep r e2]; exact SqT.of (hs _ _ hq)), hl⟩
  | _ => cases e
section
variable {X : Cx} {W : WZ} {O : List Nat} {o : Expr} {fo : EF} {ka : Kd} {p ps pos cpos : Pos}
def rSetXA (K : PySem.W.Frag) (P : Program) (w : World) : List V → Hp → VK → Prop := fun vs H Q => ∃ (a : Addr) (xs : List Str), vs = [.ref a] ∧ SqX K H a (xs.map V.str) ∧ xs.length < 1000 ∧ ∀ p, H p = none → Q (.ref p) (upd H p (SetXO P w p (metS [] xs)))
theorem cr_setXA (hc : X.calm = true) : CallR X (.type "set") (rSetXA X.K X.prog X.w) := by
  rintro pins s σ H vs us Q I r ⟨a, xs, rfl, hs | hs, hl, q⟩
  · obtain ⟨its, rv, ls, _⟩ := I.list hs
    obtain rfl := Vals.ref1 r
    exact call_setX (I.ok.hd hc) ls.isList (by simpa using rv.strs) hl fun h' tk sx k => ⟨.ref _, _, I.laid (t' := tk) k (Nat.le_refl _) (setXO_ok sx), rfl, q _ (I.hok.fresh (Nat.le_refl _))⟩
  · obtain ⟨its, rv, ⟨o, eo, hcl, n, hdt⟩, z⟩ := I.tuple hs
    obtain rfl := Vals.ref1 r
    exact call_setXT (I.ok.hd hc) ⟨o, eo, hcl, n, hdt⟩ (by simpa using rv.strs) hl fun h' tk sx k => ⟨.ref _, _, I.laid (t' := tk) k (Nat.le_refl _) (setXO_ok sx), rfl, q _ (I.hok.fresh (Nat.le_refl _))⟩
theorem lenSetA_of {K : PySem.W.Frag} {P : Program} {wo : World} : ∀ σ H Q, rd K .e W O (e1 lenSetA fo) σ H Q → tCB (rLenX P wo) (tCons (tCB (rSetXA K P wo) (tCons (rd K ka W O fo) tNil)) tNil) σ H Q := by
  rintro σ H Q ⟨ent, w, ρ, S, r, pp⟩
  refine ⟨ent, w, ρ, S, r, pp.bind fun d S1 v H1 w1 x1 g1 z1 p1 => ?_⟩
  have v1 := (z1.ext (H1 := H1) (.refl _ _)).vw g1
  cases e : lenSetA (deref S1 d) with
  | none => rw [e] at p1; exact p1.elim
  | some d' =>
    rw [e] at p1
    cases e2 : txtsA (deref S1 d) with
    | none => unfold lenSetA at e; rw [e2] at e; cases e
    | some l =>
      unfold lenSetA at e; rw [e2] at e; cases e
      obtain ⟨a, ea, hq, hl⟩ := vw_txtsA g1.sub v1 e2
      have ml := metS_len l []
      simp only [List.length_nil] at ml
      refine ⟨a, l, by rw [ea], hq, hl, fun q hn => ⟨q, metS [] l, rfl, upd_same, by omega, ?_⟩⟩
      exact p1 _ _ w1 (Ext.newO w1 hn) (g1.newO hn) (.int _)
theorem de_lenSetA (hc : X.calm = true) (hm : X.mg "len" = none) (hms : X.mg "set" = none) (ho : DE ka X W O o fo) (hg : Gl X "len" := by rfl) (hgs : Gl X "set" := by rfl)
    (hs2 : starEach [o] X.env = (false, eval o X.env) :: starEach [] X.env := by rfl) (hpl2 : (backTo cpos (starEach [] X.env)).any (·.1) = false := by rfl)
    (hs : starEach [.Call (.Name "set" ps) [o] [] cpos] X.env = (false, eval (.Call (.Name "set" ps) [o] [] cpos) X.env) :: starEach [] X.env := by rfl) (hpl : (backTo pos (starEach [] X.env)).any (·.1) = false := by rfl) :
    DE .e X W O (.Call (.Name "len" p) [.Call (.Name "set" ps) [o] [] cpos] [] pos) (e1 lenSetA fo) :=
  ⟨(pe_callB cr_lenX hg hm boot_len (pa_cons (pe_callTy (cr_setXA hc) hgs hms PyProof.Rows.boot_set (pa_cons ho.pe pa_nil hs2) (by decide) (by decide) hs2 hpl2) pa_nil hs) (by decide) (by decide) hs hpl).imp lenSetA_of⟩
theorem srtSetA_of {K : PySem.W.Frag} {P : Program} {wo : World} : ∀ σ H Q, rd K .f W O (e1 srtSetA fo) σ H Q → tCB (rSortX P wo) (tCons (tCB (rSetXA K P wo) (tCons (rd K ka W O fo) tNil)) tNil) σ H Q := by
  rintro σ H Q ⟨ent, w, ρ, S, r, pp⟩
  refine ⟨ent, w, ρ, S, r, pp.bind fun d S1 v H1 w1 x1 g1 z1 p1 => ?_⟩
  have v1 := (z1.ext (H1 := H1) (.refl _ _)).vw g1
  cases e : srtSetA (deref S1 d) with
  | none => rw [e] at p1; exact p1.elim
  | some d' =>
    rw [e] at p1
    cases e2 : txtsA (deref S1 d) with
    | none => unfold srtSetA at e; rw [e2] at e; cases e
    | some l =>
      unfold srtSetA at e; rw [e2] at e; cases e
      obtain ⟨a, ea, hq, hl⟩ := vw_txtsA g1.sub v1 e2
      have ml := metS_len l []
      simp only [List.length_nil] at ml
      refine ⟨a, l, by rw [ea], hq, hl, fun q hn => ⟨q, metS [] l, rfl, upd_same, by omega, fun q2 hn2 => ?_⟩⟩
      have x2 := Ext.newO (o := SetXO P wo q (metS [] l)) w1 hn
      have g2 := g1.newO (o := SetXO P wo q (metS [] l)) hn
      have hn1 : H1 q2 = none := by
        by_cases z : q2 = q
        · rw [z]; exact hn
        · rw [upd_ne z] at hn2; exact hn2
      exact p1 _ _ w1 (x2.trans (Ext.newO w1 hn2)) (g2.newO hn2) ⟨q2, rfl, hn1, g2.noneF hn2, g2.nophi hn2, _, upd_same, strs_reps _⟩
theorem de_srtSetA (hc : X.calm = true) (hu : X.A.units + 64 < cLine) (hm : X.mg "sorted" = none) (hms : X.mg "set" = none) (ho : DE ka X W O o fo) (hg : Gl X "sorted" := by rfl) (hgs : Gl X "set" := by rfl)
    (hs2 : starEach [o] X.env = (false, eval o X.env) :: starEach [] X.env := by rfl) (hpl2 : (backTo cpos (starEach [] X.env)).any (·.1) = false := by rfl)
    (hs : starEach [.Call (.Name "set" ps) [o] [] cpos] X.env = (false, eval (.Call (.Name "set" ps) [o] [] cpos) X.env) :: starEach [] X.env := by rfl) (hpl : (backTo pos (starEach [] X.env)).any (·.1) = false := by rfl) :
    DE .f X W O (.Call (.Name "sorted" p) [.Call (.Name "set" ps) [o] [] cpos] [] pos) (e1 srtSetA fo) :=
  ⟨(pe_callB (cr_sortX hc hu) hg hm boot_sorted (pa_cons (pe_callTy (cr_setXA hc) hgs hms PyProof.Rows.boot_set (pa_cons ho.pe pa_nil hs2) (by decide) (by decide) hs2 hpl2) pa_nil hs) (by decide) (by decide) hs hpl).imp srtSetA_of⟩
end
end DL

set_option maxHeartbeats 4000000
/-! sorted, told so that the kernel can run it: by insertion, where no two items are alike -/
namespace DL
open PySem PySem.Spec PyProof.Rows L2
theorem ins1_perm {α : Type} (le : α → α → Bool) (x : α) : ∀ l : List α, (ins1 le x l).Perm (x :: l)
  | [] => .refl _
  | y :: l => by
    unfold ins1
    split
    · exact .refl _
    · exact ((ins1_perm le x l).cons y).trans (.swap x y l)
theorem insS_perm {α : Type} (le : α → α → Bool) : ∀ l : List α, (insS le l).Perm l
  | [] => .refl _
  | x :: l => (ins1_perm le x _).trans ((insS_perm le l).cons x)
theorem strict_pw {α : Type} (le : α → α → Bool) : ∀ {l : List α}, strictS le l = true → l.Pairwise fun a b => le b a = false
  | [], _ => .nil
  | x :: l, h => by
    unfold strictS at h
    obtain ⟨h1, h2⟩ := Bool.and_eq_true_iff.mp h
    refine List.pairwise_cons.mpr ⟨fun y hy => ?_, strict_pw le h2⟩
    have := List.all_eq_true.mp h1 y hy
    simpa using this
theorem uniq_strict {α : Type} {le : α → α → Bool} : ∀ {M N : List α}, M.Perm N → M.Pairwise (fun a b => le b a = false) → N.Pairwise (fun a b => le a b = true) → M = N
  | [], N, p, _, _ => (List.nil_perm.mp p).symm
  | a :: M, [], p, _, _ => by have := p.length_eq; simp at this
  | a :: M, b :: N, p, hm, hn => by
    rw [List.pairwise_cons] at hm hn
    have ab : a = b := by
      have h1 : b ∈ a :: M := p.mem_iff.mpr List.mem_cons_self
      rcases List.mem_cons.mp h1 with e | h1
      · exact e.symm
      · have h2 : a ∈ b :: N := p.mem_iff.mp List.mem_cons_self
        rcases List.mem_cons.mp h2 with e | h2
        · exact e
        · have f := hm.1 b h1
          rw [hn.1 a h2] at f
          cases f
    subst ab
    rw [uniq_strict (List.Perm.cons_inv p) hm.2 hn.2]
theorem ins_merge {α : Type} {le : α → α → Bool} (t : PySem.W.TotalLe le) {l : List α} (h : strictS le (insS le l) = true) : l.mergeSort le = insS le l :=
  (uniq_strict ((insS_perm le l).trans (List.mergeSort_perm l _).symm) (strict_pw le h) (List.pairwise_mergeSort t.trans (fun a b => Bool.or_eq_true_iff.mpr (t.total a b)) l)).symm
theorem sortK_A {d r : D} (h : sortK d = some r) : sortA d = some r := by
  unfold sortK at h
  unfold sortA
  cases e : itemsA d with
  | none => rw [e] at h; cases h
  | some ds =>
    rw [e] at h
    simp only at h ⊢
    split at h
    · rename_i q
      obtain ⟨q1, q2⟩ := Bool.and_eq_true_iff.mp q
      rw [if_pos q1]
      unfold sortD
      have t : PySem.W.TotalLe (PySem.W.dataLe false toPy) := PySem.W.sortLe_total (PyProof.Rows.listOrd PyProof.Rows.itemOrd) false fun b => PySem.W.keyToks (toPy b)
      rw [ins_merge t q2]
      exact h
    · cases h
theorem srtSetK_A {d r : D} (h : srtSetK d = some r) : srtSetA d = some r := by
  unfold srtSetK at h
  unfold srtSetA
  cases e : txtsA d with
  | none => rw [e] at h; cases h
  | some l =>
    rw [e] at h
    simp only [Option.map_some] at h ⊢
    split at h
    · rename_i q
      unfold srtS
      rw [ins_merge leS_total q]
      exact h
    · cases h
section
variable {X : Cx}
theorem rN_le {K : PySem.W.Frag} {k : Kd} {g g' : D → Option D} (h : ∀ d r, g d = some r → g' d = some r) {xs : List V} {H : Hp} {Q : VK} (q : rN K k (f1 g) xs H Q) : rN K k (f1 g') xs H Q := by
  obtain ⟨w, S, ds, d, gd, ks, e, q⟩ := q
  refine ⟨w, S, ds, d, gd, ks, ?_, q⟩
  cases hd : ds.map (deref S) with
  | nil => rw [hd] at e; cases e
  | cons x r => cases r with
    | nil => rw [hd] at e; exact h _ _ e
    | cons y r => rw [hd] at e; cases e
theorem cr_sortK (hcalm : X.calm = true) (hu : X.A.units + 64 < cLine) : CallR X (.builtin "sorted") (rN X.K .f (f1 sortK)) :=
  fun pins s σ H xs us Q I r q => cr_sortA hcalm hu pins s σ H xs us Q I r (rN_le (fun _ _ => sortK_A) q)
theorem rd_le {K : PySem.W.Frag} {k : Kd} {W : WZ} {O : List Nat} {f f' : EF} (h : ∀ ρ S, f ρ S = .stuck ∨ f ρ S = f' ρ S) : ∀ σ H Q, rd K k W O f σ H Q → rd K k W O f' σ H Q := by
  rintro σ H Q ⟨ent, w, ρ, S, r, p⟩
  refine ⟨ent, w, ρ, S, r, ?_⟩
  rcases h ρ S with e | e
  · rw [e] at p; exact p.elim
  · rw [← e]; exact p
theorem de_le {W : WZ} {O : List Nat} {e : Expr} {k : Kd} {f f' : EF} (h : ∀ ρ S, f ρ S = .stuck ∨ f ρ S = f' ρ S) (d : DE k X W O e f') : DE k X W O e f := ⟨d.pe.imp (rd_le h)⟩
theorem e1_le {g g' : D → Option D} (h : ∀ d r, g d = some r → g' d = some r) (fa : EF) : ∀ ρ S, e1 g fa ρ S = .stuck ∨ e1 g fa ρ S = e1 g' fa ρ S := fun ρ S => by
  unfold e1
  cases fa ρ S with
  | stuck => exact .inl rfl
  | exn x S1 => exact .inr rfl
  | ok d S1 =>
    show (Res.ofOpt (g (deref S1 d)) S1 = .stuck) ∨ Res.ofOpt (g (deref S1 d)) S1 = Res.ofOpt (g' (deref S1 d)) S1
    cases e : g (deref S1 d) with
    | none => exact .inl rfl
    | some r => right; rw [h _ _ e]
theorem de_srtSetK {W : WZ} {O : List Nat} {fa : EF} {e : Expr} (d : DE .f X W O e (e1 srtSetA fa)) : DE .f X W O e (e1 srtSetK fa) := de_le (e1_le (fun _ _ => srtSetK_A) fa) d
end
end DL

set_option maxHeartbeats 4000000
/-! list(d), the keys of d are tuples -/
namespace DL
open PySem PySem.Spec PyProof.Rows L2
section
variable {X : Cx}
theorem call_list_dT (hc : X.calm = true) : CallR X (.type "list") (fun xs H Q => ∃ d kvs, xs = [V.ref d] ∧ Rd H d (.dT kvs) ∧ ∀ p bs, H p = none → IsKeys H kvs bs → Q (.ref p) (L2.upd H p (.lst (bs.map V.ref)))) := by
  intro pins s σ H xs us Q I r h
  obtain ⟨d, kvs, rfl, hd, q⟩ := h
  obtain ⟨u, rfl, rx⟩ := r.one
  cases rx
  obtain ⟨z, hs, ks, pr, o, es, ep, ho, hx, hdt, he, _⟩ := (show ObjOk X.prog X.w H s.heap d (.dT kvs) from hd.ok I.hok)
  have l1 : es.size = ks.length := size_of_entries he
  have l2 : kvs.length = ks.length := Paired.length pr
  refine PySem.W.kdl_call (kdl_raw hs hx hdt) (I.ok.hd hc) ho (by omega) fun h' tk acc c' kp hS it => ?_
  have al : acc.toList.length = ks.length := by rw [Array.length_toList, it.1]; exact l1
  have ea : acc.toList = (ks.map fun x => x.2.1).map Value.ref := List.ext_getElem? fun j => by
    rw [List.getElem?_map, List.getElem?_map]
    have qe := entry_at he j
    by_cases hj : j < ks.length
    · have hv : acc.toList[j]? = some (acc.toList[j]'(by omega)) := List.getElem?_eq_getElem _
      obtain ⟨en, hen, hk⟩ := it.2 j _ (by rw [← Array.getElem?_toList]; exact hv)
      rw [List.getElem?_eq_getElem hj] at qe ⊢
      rw [hen] at qe
      have e2 := Option.some.inj qe
      rw [hv, hk, e2]
      rfl
    · rw [List.getElem?_eq_none (by omega), List.getElem?_eq_none (by omega)]
      rfl
  have rv : Vals ((ks.map fun x => x.2.1).map V.ref) acc.toList := by rw [ea]; exact vals_refs _
  have hz : ((ks.map fun x => x.2.1).map V.ref).length ≤ sizeLine := by rw [List.length_map, List.length_map]; omega
  refine ⟨.ref s.heap.objs.size, L2.upd H s.heap.objs.size (.lst ((ks.map fun x => x.2.1).map V.ref)), I.laid kp (Nat.le_refl _) (show ObjOk X.prog X.w _ _ _ (.lst ((ks.map fun x => x.2.1).map V.ref)) from ⟨hz, acc.toList, c', rv, ?_⟩), rfl, q _ _ (I.hok.fresh (Nat.le_refl _)) (isKeys_of pr)⟩
  rw [Array.toArray_toList]
  exact hS
theorem cr_lstT (hc : X.calm = true) : CallR X (.type "list") (rN X.K .f (f1 lstT)) := by
  refine call1 fun pins s σ H x u Q w S d d' I r g v e q => ?_
  have rv : Vals [x] [u] := .cons r .nil
  cases v with
  | dT h rr =>
    cases e
    refine call_list_dT hc pins s σ H _ [u] Q I rv ⟨_, _, rfl, .inl h, fun p bs np hk => ?_⟩
    obtain ⟨w1, x1, g1, f1'⟩ := frzs bs g (isKeys_tup hk)
    have rp := keysT (w' := w1) rr hk f1'
    exact q _ _ w1 (x1.trans (Ext.newO w1 np)) (g1.newO np) ⟨p, rfl, np, g1.noneF np, g1.nophi np, _, upd_same, rp⟩
  | lst h rr => cases e; exact call_list_of pins s σ H [_] [u] Q I rv ⟨_, _, rfl, .inl h, fun p np => q _ _ w (Ext.newO w np) (g.newO np) ⟨p, rfl, np, g.noneF np, g.nophi np, _, upd_same, rr⟩⟩
  | tup h rr => cases e; exact call_list_of pins s σ H [_] [u] Q I rv ⟨_, _, rfl, .inr (SqT.of (g.sub _ _ h)), fun p np => q _ _ w (Ext.newO w np) (g.newO np) ⟨p, rfl, np, g.noneF np, g.nophi np, _, upd_same, rr⟩⟩
  | ctp h rr => cases e; exact call_list_of pins s σ H [_] [u] Q I rv ⟨_, _, rfl, .inr (SqT.monoF none_le h), fun p np => q _ _ w (Ext.newO w np) (g.newO np) ⟨p, rfl, np, g.noneF np, g.nophi np, _, upd_same, rr⟩⟩
  | dK h rr => cases e; exact call_listD hc pins s σ H [_] [u] Q I rv ⟨_, _, rfl, h, fun p np => q _ _ w (Ext.newO w np) (g.newO np) ⟨p, rfl, np, g.noneF np, g.nophi np, _, upd_same, rr.keys⟩⟩
  | _ => cases e
end
end DL

set_option maxHeartbeats 4000000
/-! {k: v}, k a tuple -/
namespace DL
open PySem PySem.Spec PyProof.Rows L2
section
variable {X : Cx} {ke ve : Expr} {pos : Pos} {tk tv : TE}
def tDispT (tk tv : TE) : TE := fun σ H Q => ∀ p, H p = none → tk σ (upd H p (.dT [])) fun y H1 => tv σ H1 fun z H2 => ∃ b k, y = .ref b ∧ H2 b = some (.tup (List.map kV k)) ∧ H2 p = some (.dT []) ∧ Q (.ref p) (upd H2 p (.dT [(k, z)]))
theorem pe_dispT (hu : X.A.units + 2 < cLine) (hk : PE X ke tk) (hv : PE X ve tv) : PE X (.Dict [some ke] [ve] pos) (tDispT tk tv) := by
  refine ⟨fun pins s σ H Q I q => ?_⟩
  have hn := I.hok.fresh (Nat.le_refl s.heap.objs.size)
  have I1 := I.laid (a := s.heap.objs.size) (o := .dT []) (h' := s.heap.push { cls := .type "dict", data := .dict #[] }) (t' := s.toks) (fun _ _ q => Heap.get?_push_of_some _ q) (Nat.le_refl _) (dt_empty s.heap I.big)
  have q1 := q _ hn
  have hp := pairTrees_length [some ke] [ve] X.env pos rfl rfl
  have hp0 : pairTrees [some ke] [ve] X.env pos ≠ [] := fun e => by rw [e] at hp; cases hp
  rw [arm_eval_Dict, zip_pairTrees [some ke] [ve] X.env pos rfl rfl, dictDisplay_pairs _ hp0 (by rw [hp]; show 1 < 17; decide)]
  refine wpAny_bind (wpAny_standAt (wpAny_bind (wpAny_subDictH (knd := tupleKind (mixKind X.prog X.w)) (Q := fun d s' => wpAny (model X.prog X.w) X.A (pure (Value.ref d)) (EP X pins σ Q) X.xe s') (show X.A.units < cLine by omega) (by rw [hp]; show 1 ≤ 15; decide) ?_)))
  refine pairTrees_cons_walk (thn (hk.run pins _ σ _ _ I1 q1) fun kv s1 ⟨y, H1, I2, r1, q2⟩ => thn (hv.run pins s1 σ H1 _ I2 q2) fun vv s2 ⟨z, H2, I3, r2, b, k, ey, hb, hD, q3⟩ => pairTrees_nil_walk ?_)
  subst ey
  obtain rfl : kv = Value.ref b := r1
  obtain ⟨_, hd, xs, rel, dd⟩ := dt_of I3.hok hD
  cases rel
  have kb := key_of I3.hok hb
  refine ⟨[(k, b, vv)], ⟨rfl, rfl, kb, trivial⟩, dd, fun h' tk' dd' sb => ?_⟩
  obtain ⟨o, es, ep, ho, h2, h3, h4, _, h5⟩ := dd'
  refine wpAny_pure ⟨.ref s.heap.objs.size, upd H2 s.heap.objs.size (.dT [(k, z)]), d_write I3 (by rw [hD]; exact True.intro) sb ⟨o, ho⟩ ⟨(show 1 ≤ sizeLine by decide), hd, [(k, b, vv)], .cons ⟨rfl, ?_, r2⟩ .nil, o, es, ep, ho, h2, h3, h4, h5⟩, rfl, q3⟩
  rw [upd_ne (ne_of hb hD (fun z => nomatch z))]
  exact hb
end
theorem reps_keys_eq {K : PySem.W.Frag} {w : Wit} : ∀ {k : List L2.Key} {vs : List V}, Reps K w (k.map kD) vs → vs = k.map kV
  | [], _, .nil => rfl
  | x :: k, _, .cons h t => by
    rw [List.map_cons, ← reps_keys_eq t]
    cases x with
    | inl i => cases h; rfl
    | inr y => cases h; rfl
section
variable {X : Cx} {W : WZ} {O : List Nat} {ke ve : Expr} {pos : Pos} {fk fv : EF}
theorem de_dispT (hu : X.A.units + 2 < cLine) (hk : DE .e X W O ke fk) (hv : DE .e X W O ve fv) : DE .f X W O (.Dict [some ke] [ve] pos) (eDispT fk fv) := by
  refine ⟨(pe_dispT hu hk.pe hv.pe).imp ?_⟩
  rintro σ H Q ⟨ent, w, ρ, S, r, p⟩ a na
  have x0 : Ext w H w (upd H a (.dT [])) := Ext.newO w na
  have r0 := r.later x0 (r.gd.newO (o := .dT []) na)
  have o0 : Own X.K w (upd H a (.dT [])) (.dtt []) a := ⟨r.gd.noneF na, r.gd.nophi na, [], upd_same, .nil⟩
  refine ⟨ent, w, ρ, S, r0, ?_⟩
  unfold eDispT at p
  cases e1 : fk ρ S with
  | stuck => rw [e1] at p; exact p
  | exn x S1 => rw [e1] at p; exact fun cls dx H' w' y g' h => p cls dx H' w' (x0.trans y) g' h
  | ok dk S1 =>
    rw [e1] at p
    simp only [Res.bind_ok] at p
    intro vk H1 w1 x1 g1 z1
    refine ⟨ent, w1, ρ, S1, r0.later x1 g1, ?_⟩
    cases e2 : fv ρ S1 with
    | stuck => rw [e2] at p; exact p
    | exn x S2 => rw [e2] at p; exact fun cls dx H' w' y g' h => p cls dx H' w' (x0.trans (x1.trans y)) g' h
    | ok dv S2 =>
      rw [e2] at p
      simp only [Res.bind_ok] at p
      intro vv H2 w2 x2 g2 z2
      cases e3 : tOf dk with
      | none => rw [e3] at p; exact p.elim
      | some kk =>
        rw [e3] at p
        dsimp only at p
        have ed := RepK.tup_of e3
        subst ed
        have o2 := (o0.ext x1).ext x2
        obtain ⟨f1, f2, vs, hH, rv⟩ := o2
        cases rv
        have z1' : Rep X.K w1 (.tup (kk.map kD)) vk := z1
        cases z1' with
        | @tup b vs _ hF rr =>
          have ev : vs = kk.map kV := reps_keys_eq rr
          subst ev
          have hb : H2 b = some (.tup (kk.map kV)) := g2.sub _ _ (x2.le.F _ _ hF)
          refine ⟨b, kk, rfl, hb, hH, ?_⟩
          exact p _ _ w2 ((x0.trans (x1.trans x2)).updO na) (g2.updO f1 f2 ⟨fun ps z => (by rw [hH] at z; cases z), fun c q z => by rw [hH] at z; exact codeO_ne' (fun f z => by cases z) (Option.some.inj z).symm⟩) ⟨a, rfl, na, f1, f2, _, upd_same, .cons z2 .nil⟩
end
end DL

set_option maxHeartbeats 4000000
/-! comprehensions that walk over an own dict: the dict is locked meanwhile -/
namespace DL
open PySem PySem.Spec PyProof.Rows L2
theorem lcD_noexn {g : GF} {fc fe : EF} : ∀ (xs acc : List D) (ρ : DEnv) (S : Sto) (x : D) (S' : Sto), lcD g fc fe xs acc ρ S ≠ .exn x S'
  | [], acc, ρ, S, x, S', h => by cases h
  | y :: xs, acc, ρ, S, x, S', h => by
    unfold lcD at h
    cases e1 : g y ρ with
    | none => rw [e1] at h; cases h
    | some ρ1 =>
      rw [e1] at h
      dsimp only at h
      cases e2 : fc ρ1 S with
      | stuck => rw [e2] at h; cases h
      | exn z S2 => rw [e2] at h; cases h
      | ok c S2 =>
        rw [e2] at h
        cases c with
        | bl b =>
          cases b with
          | false => exact lcD_noexn _ _ _ _ _ _ h
          | true =>
            dsimp only at h
            cases e3 : fe ρ1 S2 with
            | stuck => rw [e3] at h; cases h
            | exn z S3 => rw [e3] at h; cases h
            | ok d S3 => rw [e3] at h; exact lcD_noexn _ _ _ _ _ _ h
        | _ => cases h
theorem lcD_lst {g : GF} {fc fe : EF} : ∀ (xs acc : List D) (ρ : DEnv) (S : Sto) (d : D) (S' : Sto), lcD g fc fe xs acc ρ S = .ok d S' → ∃ ds, d = .lst ds
  | [], acc, ρ, S, d, S', h => by cases h; exact ⟨_, rfl⟩
  | y :: xs, acc, ρ, S, d, S', h => by
    unfold lcD at h
    cases e1 : g y ρ with
    | none => rw [e1] at h; cases h
    | some ρ1 =>
      rw [e1] at h
      dsimp only at h
      cases e2 : fc ρ1 S with
      | stuck => rw [e2] at h; cases h
      | exn z S2 => rw [e2] at h; cases h
      | ok c S2 =>
        rw [e2] at h
        cases c with
        | bl b =>
          cases b with
          | false => exact lcD_lst _ _ _ _ _ _ h
          | true =>
            dsimp only at h
            cases e3 : fe ρ1 S2 with
            | stuck => rw [e3] at h; cases h
            | exn z S3 => rw [e3] at h; cases h
            | ok d S3 => rw [e3] at h; exact lcD_lst _ _ _ _ _ _ h
        | _ => cases h
theorem lc_cont {K : PySem.W.Frag} {W : WZ} {O vs : List Nat} {g : GF} {t : TG} {fc fe : EF} (hgo : GOk K O g t) (ho : TOwn t vs) (hO : ∀ i, i ∈ vs → i ∉ O) {σ : L2.St} {H : Hp} {Q : VK} {ent : Ent W.xc} {w : Wit} {ρ : DEnv} {S : Sto} {ds : List D} (r : R K ent O w H σ ρ S) (p : Post K .f w H W σ (lcD g fc fe ds [] (wipeD ρ vs) S) Q) {J : It} (hJ : ItOkE K w H J ds) (hz : ds.length ≤ sizeLine) (L : Addr) (hL : H L = none) :
    ∃ Wv : Nat → Nat → Hp → Prop, (∃ m, Wv 0 m (upd H L (.lst []))) ∧ ∀ i m H, Wv i m H →
      (J.stop i H ∧ Q (.ref L) H) ∨ (J.go i H ∧ ∃ Nx : Hp → Prop, (∀ H', Nx H' → ∃ m', m' < m ∧ Wv (i + 1) m' H') ∧ ∀ x H', J.yld i H x H' → t x (L2.wipe σ vs) H' fun σ2 H2 => L2.wipe σ2 vs = L2.wipe σ vs ∧ rdT K W.no O fc σ2 H2 fun b H3 =>
        if b = true then rd K .e W.no O fe σ2 H3 fun y H4 => ∃ acc, H4 L = some (.lst acc) ∧ acc.length < sizeLine ∧ Nx (upd H4 L (.lst (acc ++ [y]))) else Nx H3) := by
  have r1 := r.wipe vs hO
  refine ⟨fun i m H' => m = ds.length - i ∧ i ≤ ds.length ∧ ∃ w2 acc S2, Ext w H w2 H' ∧ Gd K w2 H' S2 ∧ Own K w2 H' (.lst acc) L ∧ acc.length ≤ i ∧ Post K .f w H W σ (lcD g fc fe (ds.drop i) acc (wipeD ρ vs) S2) Q, ⟨ds.length, by simp, Nat.zero_le _, w, [], S, Ext.newO w hL, r.gd.newO hL, ⟨r.gd.noneF hL, r.gd.nophi hL, [], upd_same, .nil⟩, Nat.le_refl _, by simpa using Post.later (r := lcD g fc fe ds [] (wipeD ρ vs) S) (.refl _ _) p⟩, ?_⟩
  rintro i m H2 ⟨rfl, hi, w2, acc, S2, x2, g2, o2, hl2, p2⟩
  obtain ⟨j1, j2⟩ := hJ w2 H2 S2 i x2 g2
  by_cases hlt : i < ds.length
  · obtain ⟨jg, jy⟩ := j1 ds[i] (List.getElem?_eq_getElem hlt)
    refine .inr ⟨jg, fun H' => ∃ w' acc' S', Ext w H w' H' ∧ Gd K w' H' S' ∧ Own K w' H' (.lst acc') L ∧ acc'.length ≤ i + 1 ∧ Post K .f w H W σ (lcD g fc fe (ds.drop (i + 1)) acc' (wipeD ρ vs) S') Q,
      fun H' ⟨w', acc', S', q1, q2, q3, q4, q5⟩ => ⟨ds.length - (i + 1), by omega, rfl, hlt, w', acc', S', q1, q2, q3, q4, q5⟩, fun x H3 y => ?_⟩
    obtain ⟨w3, x3, g3, z3⟩ := jy x H3 y
    rw [List.drop_eq_getElem_cons hlt] at p2
    unfold lcD at p2
    have r3 : R K ent O w3 H3 (L2.wipe σ vs) (wipeD ρ vs) S2 := r1.later (x2.trans x3) g3
    cases e2 : g ds[i] (wipeD ρ vs) with
    | none => rw [e2] at p2; exact p2.elim
    | some ρ3 =>
      rw [e2] at p2
      dsimp only at p2
      refine ho.wiped (hgo.ok r3 z3 e2 fun σ3 s3' r3' => ?_)
      refine ⟨ent, w3, ρ3, S2, r3', ?_⟩
      have o3 : Own K w3 H3 (.lst acc) L := o2.ext x3
      cases e3 : fc ρ3 S2 with
      | stuck => rw [e3] at p2; exact p2.elim
      | exn y S3 => rw [e3] at p2; exact p2.elim
      | ok c S3 =>
        rw [e3] at p2
        cases c with
        | bl b =>
          refine ⟨b, rfl, fun H4 w4 x4 g4 => ?_⟩
          cases b with
          | false =>
            rw [if_neg Bool.false_ne_true]
            exact ⟨w4, acc, S3, x2.trans (x3.trans x4), g4, o3.ext x4, Nat.le_succ_of_le hl2, p2⟩
          | true =>
            rw [if_pos rfl]
            dsimp only at p2
            refine ⟨ent, w4, ρ3, S3, r3'.later x4 g4, ?_⟩
            cases e4 : fe ρ3 S3 with
            | stuck => rw [e4] at p2; exact p2.elim
            | exn y S4 => rw [e4] at p2; exact p2.elim
            | ok d S4 =>
              rw [e4] at p2
              intro v H5 w5 x5 g5 z5
              have o5 : Own K w5 H5 (.lst acc) L := (o3.ext x4).ext x5
              obtain ⟨f1, f2, us, f3, f4⟩ := o5
              refine ⟨us, f3, ?_, w5, acc ++ [d], S4, (x2.trans (x3.trans (x4.trans x5))).updO hL, g5.updO f1 f2 (pd_lst f3), ⟨f1, f2, _, upd_same, f4.append (.cons z5 .nil)⟩, by simp; omega, p2⟩
              rw [← f4.length]; omega
        | _ => exact p2.elim
  · have ei : i = ds.length := by omega
    subst ei
    refine .inl ⟨j2 rfl, ?_⟩
    rw [List.drop_length] at p2
    exact p2 _ H2 w2 x2 g2 ⟨L, rfl, hL, o2⟩


section
variable {K : PySem.W.Frag} {Z : Option XC} {ent : Ent Z} {O O' : List Nat} {w : Wit} {H : Hp} {σ : L2.St} {ρ : DEnv} {S : Sto} {i : Nat}
/-- a slot is not looked at -/
theorem R.blind (r : R K ent O w H σ ρ S) (h1 : ∀ j, j ∈ O' → j ∈ O ∧ j ≠ i) (h2 : ∀ j, j ∈ O → j = i ∨ j ∈ O') : R K ent O' w H σ (ρ.set i none) S where
  gd := r.gd
  ext := r.ext
  kn := r.kn
  val := fun j d e n => by
    by_cases q : j = i
    · subst q
      rw [List.getElem?_set_self'] at e
      cases e2 : ρ[j]? with
      | none => rw [e2] at e; cases e
      | some z => rw [e2] at e; cases e
    · rw [List.getElem?_set_ne (fun z => q z.symm)] at e
      exact r.val j d e fun m => (h2 j m).elim q n
  own := fun j d e m => by
    rw [List.getElem?_set_ne (fun z => (h1 j m).2 z.symm)] at e
    exact r.own j d e (h1 j m).1
  dis := fun j k a hj hk => by
    rw [List.getElem?_set_ne (fun z => (h1 j hj).2 z.symm), List.getElem?_set_ne (fun z => (h1 k hk).2 z.symm)]
    exact r.dis j k a (h1 j hj).1 (h1 k hk).1
  len := by rw [List.length_set]; exact r.len
  exc := fun z hz hi e => by
    rw [List.getElem?_set_ne (fun q => (h1 _ hi).2 q.symm)] at e
    exact r.exc z hz (h1 _ hi).1 e
  thk := r.thk
theorem ext_unlock {w2 : Wit} {H2 : Hp} {d : Addr} {F u : HO} (x : Ext w (upd H d F) w2 H2) (hd : H d = some u) (hu : NT (some u)) (hF : NT (some F)) : Ext w H w2 (upd H2 d u) where
  le := x.le
  new := fun n h1 h2 => by
    have q := x.new n h1 h2
    by_cases e : w2.phi n = d
    · rw [e, upd_same] at q; exact absurd q hF.nb
    · rwa [upd_ne e] at q
  keep := fun a o e => by
    by_cases q : a = d
    · subst q
      right
      rw [upd_same, ← hd]; exact e
    · rcases x.keep a o (by rw [upd_ne q]; exact e) with z | z
      · exact .inl z
      · right; rw [upd_ne q]; exact z
  there := fun a h => by
    by_cases q : a = d
    · subst q; rw [upd_same] at h; exact absurd h hu.nb
    · rw [upd_ne q] at h
      have := x.there a h
      rwa [upd_ne q] at this
  fz := fun a h e => by
    by_cases q : a = d
    · subst q
      refine ⟨(x.fz a (by rw [upd_same]; exact hF) e).1, ?_⟩
      rw [upd_same]; exact hu
    · have := x.fz a (by rw [upd_ne q]; exact h) e
      rwa [upd_ne q]
theorem nt_frz {od : Obj} {u : HO} : NT (some (.frz od u)) := ⟨_, rfl, fun _ _ z => by rcases z with z | z <;> cases z⟩
theorem pd_frz {o : Option HO} {od : Obj} {u : HO} (e : o = some (.frz od u)) : Pd o := ⟨fun ps z => (by rw [e] at z; cases z), fun c q z => by rw [e] at z; exact codeO_ne' (fun f z => by cases z) (Option.some.inj z).symm⟩
theorem Own.lockT {a : Addr} {kvs : List (D × D)} (h : Own K w H (.dtt kvs) a) : ∃ vs, H a = some (.dT vs) ∧ RepT K w kvs vs := h.2.2
theorem Own.lockK {a : Addr} {kvs : List (D × D)} (h : Own K w H (.dct kvs) a) : ∃ vs, H a = some (.dK vs) ∧ RepK K w kvs vs := h.2.2
end
/-- what stays of a locked thing -/
theorem frz_keep {w w' : Wit} {H H' : Hp} {a : Addr} {od : Obj} {u : HO} (h : H a = some (.frz od u)) (h2 : ∀ n, n < w.m → w.phi n ≠ a) (x : Ext w H w' H') : H' a = some (.frz od u) := by
  rcases x.keep a _ h with (⟨n, hn, en⟩ | ⟨ps, q⟩) | q
  · exact absurd en (h2 n hn)
  · cases q
  · exact q
theorem phi_keep {w w' : Wit} {H H' : Hp} {a : Addr} (h : NT (H a)) (h2 : ∀ n, n < w.m → w.phi n ≠ a) (x : Ext w H w' H') : ∀ n, n < w'.m → w'.phi n ≠ a := fun n hn e => by
  by_cases c : n < w.m
  · rw [x.le.phi n c] at e; exact h2 n c e
  · have := x.new n (Nat.not_lt.mp c) hn
    rw [e] at this
    exact h.nb this
section
variable {K : PySem.W.Frag} {W : WZ} {O O' vs : List Nat} {g : GF} {t : TG} {fc fe : EF} {i : Nat}
theorem post_lock {w : Wit} {H : Hp} {σ : L2.St} {Q : VK} {a : Addr} {u : HO} {od : Obj} {ds : List D} {ρ : DEnv} {S : Sto} (hH : H a = some u) (hu : NT (some u)) (f1 : w.F a = none) (f2 : ∀ n, n < w.m → w.phi n ≠ a)
    (p : Post K .f w H W σ (lcD g fc fe ds [] ρ S) Q) : Post K .f w (upd H a (.frz od u)) W σ (lcD g fc fe ds [] ρ S) fun v H' => H' a = some (.frz od u) ∧ Q v (upd H' a u) := by
  cases e : lcD g fc fe ds [] ρ S with
  | stuck => rw [e] at p; exact p
  | exn x S1 => exact absurd e (lcD_noexn _ _ _ _ _ _)
  | ok d S1 =>
    rw [e] at p
    obtain ⟨es, rfl⟩ := lcD_lst _ _ _ _ _ _ e
    rintro v H' w' x g' ⟨L, rfl, nbL, oL⟩
    have fr : (upd H a (.frz od u)) a = some (.frz od u) := upd_same
    have ne : L ≠ a := fun z => by rw [z, fr] at nbL; exact absurd nbL nt_frz.nb
    have fk := frz_keep fr f2 x
    have fz := x.fz a (by rw [fr]; exact nt_frz) f1
    obtain ⟨o1, o2, us, o3, o4⟩ := oL
    exact ⟨fk, p _ _ w' (ext_unlock x hH hu nt_frz) (g'.updO fz.1 (phi_keep (by rw [fr]; exact nt_frz) f2 x) (pd_frz fk)) ⟨L, rfl, by rwa [upd_ne ne] at nbL, o1, o2, us, by rw [upd_ne ne]; exact o3, o4⟩⟩
theorem lcD_of (hgo : GOk K O' g t) (ho : TOwn t vs) (hO : ∀ j, j ∈ vs → j ∉ O') (hi : i ∈ O) (h1 : ∀ j, j ∈ O' → j ∈ O ∧ j ≠ i) (h2 : ∀ j, j ∈ O → j = i ∨ j ∈ O') :
    ∀ σ H Q, rd K .f W O (eLcD i vs g fc fe) σ H Q → tLockE (tLc (iKeys (tVar i)) t (rdT K W.no O' fc) (rd K .e W.no O' fe) vs) σ H Q := by
  rintro σ H Q ⟨ent, w, ρ, S, r, p⟩
  unfold eLcD at p
  cases hρ : ρ[i]? with
  | none => rw [hρ] at p; exact p.elim
  | some o =>
    cases o with
    | none => rw [hρ] at p; exact p.elim
    | some d =>
      rw [hρ] at p
      have lockR : ∀ {a : Addr} {od : Obj} {u : HO}, σ[i]? = some (some (.ref a)) → Own K w H d a → Nb (ent.H a) → (∀ fs, H a ≠ some (.xd fs)) → R K ent O' w (upd H a (.frz od u)) σ (ρ.set i none) S := fun {a od u} hs ow nb hx =>
        (r.blind h1 h2).updL hx ow.1 ow.2.1 ow.pd nb fun n hn ⟨dn, en⟩ hs' => by
          rw [List.getElem?_set_ne (fun z => (h1 n hn).2 z.symm)] at en
          exact (h1 n hn).2 (r.dis n i a (h1 n hn).1 hi ⟨dn, en⟩ ⟨d, hρ⟩ hs' hs)
      cases d with
      | dtt kvs =>
        dsimp only at p
        by_cases hl : kvs.length < LIM
        · rw [if_pos hl] at p
          obtain ⟨a, hs, ow, nb⟩ := r.own i _ hρ hi
          obtain ⟨vs', hH, rT⟩ := ow.lockT
          have hu : NT (some (.dT vs')) := ⟨_, rfl, fun _ _ z => by rcases z with z | z <;> cases z⟩
          refine ⟨a, .dT vs', hH, trivial, fun od => ?_⟩
          have fr : (upd H a (.frz od (.dT vs'))) a = some (.frz od (.dT vs')) := upd_same
          refine ⟨.ref a, hs, a, od, rfl, .inr ⟨vs', fr, fun L hL => ?_⟩⟩
          refine lc_cont (W := W) hgo ho hO (lockR hs ow nb fun fs z => by rw [hH] at z; cases z) (post_lock hH hu ow.1 ow.2.1 p) (fun w' H' S' j x g' => ?_) (by rw [List.length_map]; exact Nat.le_of_lt (lim_size hl)) L hL
          have fk := frz_keep fr ow.2.1 x
          have hlen : kvs.length = vs'.length := rT.length
          refine ⟨fun dd e => ⟨⟨fk, ?_⟩, ?_⟩, fun hlj => ⟨fk, by rw [List.length_map] at hlj; omega⟩⟩
          · have := (List.getElem?_eq_some_iff.mp e).1
            rw [List.length_map] at this; omega
          · rintro y H2 ⟨rfl, k, v, q, e1, rfl, e2⟩
            have ed := rT.get e1
            rw [e] at ed
            cases ed
            obtain ⟨w2, x2, g2, f2⟩ := frz1 g' e2
            exact ⟨w2, x2, g2, .tup f2 (reps_keys k)⟩
        · rw [if_neg hl] at p; exact p.elim
      | dct kvs =>
        dsimp only at p
        by_cases hl : kvs.length < LIM
        · rw [if_pos hl] at p
          obtain ⟨a, hs, ow, nb⟩ := r.own i _ hρ hi
          obtain ⟨vs', hH, rT⟩ := ow.lockK
          have hu : NT (some (.dK vs')) := ⟨_, rfl, fun _ _ z => by rcases z with z | z <;> cases z⟩
          refine ⟨a, .dK vs', hH, trivial, fun od => ?_⟩
          have fr : (upd H a (.frz od (.dK vs'))) a = some (.frz od (.dK vs')) := upd_same
          refine ⟨.ref a, hs, a, od, rfl, .inl ⟨vs', fr, fun L hL => ?_⟩⟩
          refine lc_cont (W := W) hgo ho hO (lockR hs ow nb fun fs z => by rw [hH] at z; cases z) (post_lock hH hu ow.1 ow.2.1 p) (fun w' H' S' j x g' => ?_) (by rw [List.length_map]; exact Nat.le_of_lt (lim_size hl)) L hL
          have fk := frz_keep fr ow.2.1 x
          have hlen : kvs.length = vs'.length := rT.length
          refine ⟨fun dd e => ⟨⟨fk, ?_⟩, ?_⟩, fun hlj => ⟨fk, by rw [List.length_map] at hlj; omega⟩⟩
          · have := (List.getElem?_eq_some_iff.mp e).1
            rw [List.length_map] at this; omega
          · rintro y H2 ⟨rfl, k, v, e1, rfl⟩
            have ed := rT.get e1
            rw [e] at ed
            cases ed
            exact ⟨w', .refl _ _, g', rep_key k⟩
        · rw [if_neg hl] at p; exact p.elim
      | _ => exact p.elim
end
section
variable {X : Cx} {W : WZ} {O O' : List Nat} {elt tg : Expr} {ifs : List Expr} {scope : Scope} {own : List (Str × Nat)} {pos npos : Pos} {g : GF} {t : TG} {fc fe : EF} {x : Str}
theorem de_lcD (i : Nat) (O' : List Nat) (hN : X.N.Nodup) (ok : BlkOk X.N X.env.scope scope own)
    (hgo : GOk X.K O' g t) (hg : ∀ (s : Shared) (H : Hp) (C : Addr) (cl : List (Str × Addr)) (fp : List Addr), PG (X.blk s H scope (compEnvC scope cl C X.env) fp) tg t) (ho : TOwn t (own.map (·.2)))
    (ht : ∀ (s : Shared) (H : Hp) (C : Addr) (cl : List (Str × Addr)) (fp : List Addr), DCs (X.blk s H scope (compEnvC scope cl C X.env) fp) W O' ifs fc)
    (he : ∀ (s : Shared) (H : Hp) (C : Addr) (cl : List (Str × Addr)) (fp : List Addr), DE .e (X.blk s H scope (compEnvC scope cl C X.env) fp) W.no O' elt fe)
    (hx : X.N[i]? = some x := by rfl) (hv : Vis X.env.scope x := by first | exact Or.inl rfl | exact Or.inr (Or.inl rfl) | exact Or.inr (Or.inr rfl)) (hd : (x == ("__debug__" : Str)) = false := by decide) (hcd : (x == ("__classdict__" : Str)) = false := by decide)
    (hO : ∀ j, j ∈ own.map (·.2) → j ∉ O' := by decide) (hi : i ∈ O := by decide) (h1 : ∀ j, j ∈ O' → j ∈ O ∧ j ≠ i := by decide) (h2 : ∀ j, j ∈ O → j = i ∨ j ∈ O' := by decide) (hc : X.calm = true := by rfl) (hs : ∀ y, foldedSetIterable (.Name x npos) X.env y = pure y := by intro _; rfl) :
    DE .f X W O (.ListComp elt [⟨tg, .Name x npos, ifs, 0⟩] scope pos) (eLcD i (own.map (·.2)) g fc fe) :=
  ⟨(pe_lock (pe_lc (pos := pos) (tt := rdT X.K W.no O' fc) (te := rd X.K .e W.no O' fe) hc hN (pi_keys (pe_var hx hv hd hcd)) ok hg (fun s H C cl fp => (ht s H C cl fp).pts) (fun s H C cl fp => (he s H C cl fp).pe) hs)).imp (lcD_of hgo ho hO hi h1 h2)⟩
end
end DL

set_option maxHeartbeats 4000000
/-! min(l), l a list of texts -/
namespace DL
open PySem PySem.Spec PyProof.Rows L2
section
variable {X : Cx}
end
end DL

set_option maxHeartbeats 1000000
/-! try with clauses that are never met: the body raises nothing -/
namespace L2
open PySem PySem.Spec PyProof.Rows
section
variable {X : Cx} {body : List Stmt} {h₀ : ExceptHandler} {hds : List ExceptHandler} {pos : Pos} {tb : TS}
end
end L2
namespace DL
open PySem PySem.Spec PyProof.Rows L2
end DL

set_option maxHeartbeats 1000000
/-! dict(pairs) -/
namespace DL
open PySem PySem.Spec PyProof.Rows L2
section
variable {K : PySem.W.Frag} {w : Wit} {H : Hp}
end
section
variable {X : Cx}
end
end DL

set_option maxHeartbeats 1000000
/-! range(i, j, -1) -/
namespace DL
open PySem PySem.Spec PyProof.Rows L2
section
variable {K : PySem.W.Frag} {w : Wit}
end
section
variable {X : Cx} {W : WZ} {O : List Nat} {tg e e' e'' : Expr} {fa : AF}
end
end DL

set_option maxHeartbeats 4000000
/-! comprehensions that walk over a known dict: [.. for k in x[0] ..]: the dict is locked meanwhile -/
namespace DL
open PySem PySem.Spec PyProof.Rows L2
def DkAt (F : Hp) (a : Addr) (vs : List (L2.Key × V)) : Prop := F a = some (.dK vs) ∨ ∃ o, F a = some (.frz o (.dK vs))
/-- two states of knowledge that differ in a dict's lock alone -/
structure Sw (a : Addr) (vs : List (L2.Key × V)) (w w' : Wit) : Prop where
  phi : w'.phi = w.phi
  m : w'.m = w.m
  T : w'.T = w.T
  F : ∀ b, b ≠ a → w'.F b = w.F b
  A : DkAt w.F a vs
  A' : DkAt w'.F a vs
section
variable {K : PySem.W.Frag} {w w' : Wit} {a : Addr} {us : List (L2.Key × V)}
theorem Sw.at (s : Sw a us w w') {b : Addr} {o : HO} (h : w.F b = some o) (h1 : ∀ vs, o ≠ .dK vs) (h2 : ∀ o' vs, o ≠ .frz o' (.dK vs)) : w'.F b = some o := by
  by_cases q : b = a
  · subst q
    rcases s.A with e | ⟨o', e⟩
    · rw [h] at e; exact absurd (Option.some.inj e) (h1 _)
    · rw [h] at e; exact absurd (Option.some.inj e) (h2 _ _)
  · rw [s.F b q]; exact h
theorem Sw.rd (s : Sw a us w w') {b : Addr} {u : HO} (h : Rd w.F b u) (h1 : ∀ vs, u ≠ .dK vs) (h2 : ∀ o' vs, u ≠ .frz o' (.dK vs)) : Rd w'.F b u := by
  rcases h with h | ⟨o, h⟩
  · exact .inl (s.at h h1 h2)
  · exact .inr ⟨o, s.at h (fun vs z => by cases z) (fun o' vs z => by injection z with z1 z2; exact h1 _ z2)⟩
theorem Sw.dk (s : Sw a us w w') {b : Addr} {vs : List (L2.Key × V)} (h : Rd w.F b (.dK vs)) : Rd w'.F b (.dK vs) := by
  by_cases q : b = a
  · subst q
    have e : vs = us := by
      rcases h with h | ⟨o, h⟩ <;> rcases s.A with e | ⟨o', e⟩ <;> rw [h] at e
      · injection (Option.some.inj e)
      · cases e
      · cases e
      · have := Option.some.inj e
        injection this with _ z
        injection z
    rw [e]
    exact s.A'
  · rcases h with h | ⟨o, h⟩
    · exact .inl (by rw [s.F b q]; exact h)
    · exact .inr ⟨o, by rw [s.F b q]; exact h⟩
mutual
theorem Rep.sw (s : Sw a us w w') : ∀ {d : D} {v : V}, Rep K w d v → Rep K w' d v
  | _, _, .non => .non
  | _, _, .bl b => .bl b
  | _, _, .int b => .int b
  | _, _, .str b => .str b
  | _, _, .tup h r => .tup (s.at h (fun _ z => by cases z) (fun _ _ z => by cases z)) (Reps.sw s r)
  | _, _, .ctp h r => .ctp h (Reps.sw s r)
  | _, _, .lst h r => .lst (h.imp (fun h => s.rd h (fun _ z => by cases z) (fun _ _ z => by cases z)) id) (Reps.sw s r)
  | _, _, .dK h r => .dK (s.dk h) (RepK.sw s r)
  | _, _, .dT h r => .dT (s.at h (fun _ z => by cases z) (fun _ _ z => by cases z)) (RepT.sw s r)
  | _, _, .ins h r => .ins (s.at h (fun _ z => by cases z) (fun _ _ z => by cases z)) (RepF.sw s r)
  | _, _, .obj (n := n) h => by rw [← s.phi]; exact .obj (by rw [s.m]; exact h)
  | _, _, .cls c => .cls c
  | _, _, .dN h => .dN (s.at h (fun _ z => by unfold DNo at z; cases z) (fun _ _ z => by unfold DNo at z; cases z))
theorem Reps.sw (s : Sw a us w w') : ∀ {ds : List D} {vs : List V}, Reps K w ds vs → Reps K w' ds vs
  | _, _, .nil => .nil
  | _, _, .cons h t => .cons (Rep.sw s h) (Reps.sw s t)
theorem RepK.sw (s : Sw a us w w') : ∀ {ds : List (D × D)} {vs : List (L2.Key × V)}, RepK K w ds vs → RepK K w' ds vs
  | _, _, .nil => .nil
  | _, _, .cons h t => .cons (Rep.sw s h) (RepK.sw s t)
theorem RepT.sw (s : Sw a us w w') : ∀ {ds : List (D × D)} {vs : List (List L2.Key × V)}, RepT K w ds vs → RepT K w' ds vs
  | _, _, .nil => .nil
  | _, _, .cons h t => .cons (Rep.sw s h) (RepT.sw s t)
theorem RepF.sw (s : Sw a us w w') : ∀ {ds : List (Str × D)} {vs : List (Str × V)}, RepF K w ds vs → RepF K w' ds vs
  | _, _, .nil => .nil
  | _, _, .cons h t => .cons (Rep.sw s h) (RepF.sw s t)
end
theorem RepO.sw (s : Sw a us w w') {H H' : Hp} {b : Addr} (hb : b ≠ a) (hH : ∀ b, b ≠ a → H' b = H b) : ∀ {o : SO}, RepO K w H b o → RepO K w' H' b o
  | .lst _, ⟨vs, e, r⟩ => ⟨vs, by rw [hH b hb]; exact e, r.sw s⟩
  | .dct _, ⟨vs, e, r⟩ => ⟨vs, by rw [hH b hb]; exact e, r.sw s⟩
  | .dtt _, ⟨vs, e, r⟩ => ⟨vs, by rw [hH b hb]; exact e, r.sw s⟩
  | .ins _ _, ⟨dx, vs, e, r⟩ => ⟨dx, vs, by rw [hH b hb]; exact e, r.sw s⟩
theorem DkAt.ne {F : Hp} {a : Addr} {us : List (L2.Key × V)} (h : DkAt F a us) : F a ≠ none := by
  rcases h with h | ⟨o, h⟩ <;> rw [h] <;> simp
theorem DkAt.dkF {F H : Hp} {a : Addr} {us : List (L2.Key × V)} (h : DkAt F a us) (hs : ∀ a o, F a = some o → H a = some o) : DkAt H a us := by
  rcases h with h | ⟨o, h⟩
  · exact .inl (hs _ _ h)
  · exact .inr ⟨o, hs _ _ h⟩
theorem DkAt.nt {H : Hp} {a : Addr} {us : List (L2.Key × V)} (h : DkAt H a us) : NT (H a) := by
  rcases h with h | ⟨o, h⟩
  · exact ⟨_, h, fun _ _ z => by rcases z with z | z <;> cases z⟩
  · exact ⟨_, h, fun _ _ z => by rcases z with z | z <;> cases z⟩
theorem Gd.phi_ne {H : Hp} {S : Sto} (g : Gd K w H S) (h : DkAt w.F a us) : ∀ n, n < w.m → w.phi n ≠ a := fun n hn e => h.ne (e ▸ g.nofz n hn)
theorem Gd.sw (s : Sw a us w w') {H H' : Hp} {S : Sto} (g : Gd K w H S) (hH : ∀ b, b ≠ a → H' b = H b) (hA : ∀ o, w'.F a = some o → H' a = some o) : Gd K w' H' S where
  len := s.m.trans g.len
  sub := fun b o e => by
    by_cases q : b = a
    · subst q; exact hA o e
    · rw [hH b q]; rw [s.F b q] at e; exact g.sub b o e
  sto := fun n o e => by
    have hn : n < w.m := by rw [g.len]; exact (List.getElem?_eq_some_iff.mp e).1
    rw [s.phi]
    exact RepO.sw s (g.phi_ne s.A n hn) hH (g.sto n o e)
  inj := fun i j hi hj e => by
    rw [s.m] at hi hj
    rw [s.phi] at e
    exact g.inj i j hi hj e
  nofz := fun i hi => by
    rw [s.m] at hi
    rw [s.phi, s.F _ (g.phi_ne s.A i hi)]
    exact g.nofz i hi
  tab := g.tab.to s.T (fun b ps e => by
    by_cases q : b = a
    · subst q
      rcases s.A' with z | ⟨o, z⟩ <;> rw [e] at z <;> cases z
    · rw [s.F b q] at e; exact g.tab.f b ps e) fun b o e h => by
      by_cases q : b = a
      · subst q
        have hk := s.A.dkF g.sub
        rcases h with ⟨ps, rfl⟩ | ⟨c, qq, rfl⟩
        · rcases hk with z | ⟨o, z⟩ <;> rw [e] at z <;> cases z
        · rcases hk with z | ⟨o, z⟩ <;> rw [e] at z
          · exact absurd (Option.some.inj z) (codeO_ne' fun f z => by cases z)
          · exact absurd (Option.some.inj z) (codeO_ne' fun f z => by cases z)
      · rw [hH b q]; exact e
theorem put_at {w : Wit} {a : Addr} {o : HO} : (w.put a o).F a = some o := if_pos rfl
theorem put_ne {w : Wit} {a b : Addr} {o : HO} (h : b ≠ a) : (w.put a o).F b = w.F b := if_neg h
theorem Sw.lock (h : DkAt w.F a us) (o : HO) (ho : o = .dK us ∨ ∃ od, o = .frz od (.dK us)) : Sw a us w (w.put a o) where
  phi := rfl
  m := rfl
  T := rfl
  F := fun b hb => put_ne hb
  A := h
  A' := by
    rcases ho with rfl | ⟨od, rfl⟩
    · exact .inl put_at
    · exact .inr ⟨od, put_at⟩
theorem r_lockK {ent : Ent none} {H : Hp} {σ : L2.St} {ρ : DEnv} {S : Sto} (r : R K ent [] w H σ ρ S) (h : DkAt w.F a us) (od : Obj) :
    R K (Z := none) ⟨w.put a (.frz od (.dK us)), upd H a (.frz od (.dK us)), w.put a (.frz od (.dK us))⟩ [] (w.put a (.frz od (.dK us))) (upd H a (.frz od (.dK us))) σ ρ S where
  gd := Gd.sw (Sw.lock h _ (.inr ⟨od, rfl⟩)) r.gd (fun b hb => upd_ne hb) (fun o e => by rw [put_at] at e; rw [upd_same]; exact e)
  ext := .refl _ _
  kn := .refl _
  val := fun i d e n => let ⟨v, h1, h2⟩ := r.val i d e n; ⟨v, h1, h2.sw (Sw.lock h _ (.inr ⟨od, rfl⟩))⟩
  own := fun i d e n => by cases n
  dis := fun i j b hi => by cases hi
  len := r.len
  exc := fun z hz => by cases hz
  thk := fun z hz => by cases hz
/-- what comes out of the locked world, in the world without the lock -/
theorem ext_open {H : Hp} {w2 : Wit} {H2 : Hp} {od : Obj} {S S2 : Sto} (g : Gd K w H S) (hF : w.F a = some (.dK us)) (x : Ext (w.put a (.frz od (.dK us))) (upd H a (.frz od (.dK us))) w2 H2) :
    Ext w H (w2.put a (.dK us)) (upd H2 a (.dK us)) ∧ w2.F a = some (.frz od (.dK us)) := by
  have f2 : w2.F a = some (.frz od (.dK us)) := x.le.F a _ put_at
  refine ⟨⟨⟨fun b o e => ?_, x.le.phi, x.le.le, x.le.T⟩, fun n h1 h2 => ?_, fun b o e => ?_, fun b h => ?_, fun b h e => ?_⟩, f2⟩
  · by_cases q : b = a
    · subst q; rw [put_at]; rw [hF] at e; exact e
    · rw [put_ne q]; exact x.le.F b o (by rw [put_ne q]; exact e)
  · have q := x.new n h1 h2
    show Nb (H (w2.phi n))
    by_cases z : w2.phi n = a
    · rw [z, upd_same] at q
      exact absurd q (DkAt.nt (H := fun _ => some (.frz od (.dK us))) (a := a) (us := us) (.inr ⟨od, rfl⟩)).nb
    · rwa [upd_ne z] at q
  · by_cases q : b = a
    · subst q
      right
      rw [upd_same, ← g.sub _ _ hF]; exact e
    · rcases x.keep b o (by rw [upd_ne q]; exact e) with z | z
      · exact .inl z
      · right; rw [upd_ne q]; exact z
  · by_cases q : b = a
    · subst q
      rw [upd_same] at h
      exact absurd h (DkAt.nt (H := fun _ => some (.dK us)) (a := b) (us := us) (.inl rfl)).nb
    · rw [upd_ne q] at h
      have := x.there b h
      rwa [upd_ne q] at this
  · have q : b ≠ a := fun q => by subst q; rw [hF] at e; cases e
    have := x.fz b (by rw [upd_ne q]; exact h) (by rw [put_ne q]; exact e)
    rw [put_ne q, upd_ne q]
    exact this
theorem post_open {H : Hp} {W : WZ} {σ : L2.St} {Q : VK} {od : Obj} {g : GF} {fc fe : EF} {ds : List D} {ρ : DEnv} {S : Sto} (gd : Gd K w H S) (hF : w.F a = some (.dK us)) (p : Post K .f w H W σ (lcD g fc fe ds [] ρ S) Q) :
    Post K .f (w.put a (.frz od (.dK us))) (upd H a (.frz od (.dK us))) W σ (lcD g fc fe ds [] ρ S) fun v H' => H' a = some (.frz od (.dK us)) ∧ Q v (upd H' a (.dK us)) := by
  cases e : lcD g fc fe ds [] ρ S with
  | stuck => rw [e] at p; exact p
  | exn x S1 => exact absurd e (lcD_noexn _ _ _ _ _ _)
  | ok d S1 =>
    rw [e] at p
    obtain ⟨es, rfl⟩ := lcD_lst _ _ _ _ _ _ e
    rintro v H' w' x g' ⟨L, rfl, nbL, oL⟩
    obtain ⟨x2, f2⟩ := ext_open (S2 := S1) gd hF x
    have ha := g'.sub _ _ f2
    have ne : L ≠ a := fun z => by
      rw [z, upd_same] at nbL
      exact absurd nbL (DkAt.nt (H := fun _ => some (.frz od (.dK us))) (a := a) (us := us) (.inr ⟨od, rfl⟩)).nb
    have sw : Sw a us w' (w'.put a (.dK us)) := Sw.lock (.inr ⟨od, f2⟩) _ (.inl rfl)
    have g2 : Gd K (w'.put a (.dK us)) (upd H' a (.dK us)) S1 := Gd.sw sw g' (fun b hb => upd_ne hb) (fun o e => by rw [put_at] at e; rw [upd_same]; exact e)
    obtain ⟨o1, o2, vs, o3, o4⟩ := oL
    exact ⟨ha, p _ _ _ x2 g2 ⟨L, rfl, by rwa [upd_ne ne] at nbL, by rw [put_ne ne]; exact o1, o2, vs, by rw [upd_ne ne]; exact o3, o4.sw sw⟩⟩
end
section
variable {K : PySem.W.Frag} {W : WZ} {vs : List Nat} {g : GF} {t : TG} {fc fe : EF} {i : Nat} {c : Int}
theorem lcKd_of (hW : W.xc = none) (hgo : GOk K [] g t) (ho : TOwn t vs) :
    ∀ σ H Q, rd K .f W [] (eLcKd i c vs g fc fe) σ H Q → tLockE (tLc (iKeys (tOp (rIxL K) (tVar i) (tC (.int c)))) t (rdT K W.no [] fc) (rd K .e W.no [] fe) vs) σ H Q ∨ (tLc (iKeys (tOp (rIxL K) (tVar i) (tC (.int c)))) t (rdT K W.no [] fc) (rd K .e W.no [] fe) vs) σ H Q := by
  obtain ⟨wx, xc, rk⟩ := W
  cases hW
  rintro σ H Q ⟨ent, w, ρ, S, r, p⟩
  unfold eLcKd at p
  cases hρ : ρ[i]? with
  | none => rw [hρ] at p; exact p.elim
  | some o =>
    cases o with
    | none => rw [hρ] at p; exact p.elim
    | some d =>
      rw [hρ] at p
      obtain ⟨v, hv, rv⟩ := r.val i d hρ (by simp)
      cases d with
      | lst ds =>
        dsimp only at p
        cases rv with
        | @lst L vl _ hL rl =>
          cases hc : L2.atI ds c with
          | none => rw [hc] at p; exact p.elim
          | some d0 =>
            rw [hc] at p
            obtain ⟨v0, e0, r0⟩ := rl.atI hc
            cases d0 with
            | dct kvs =>
              dsimp only at p
              by_cases hl : kvs.length < LIM
              · rw [if_pos hl] at p
                cases r0 with
                | @dK a us _ hF rK =>
                  rcases hF with hF | ⟨od0, hF⟩
                  · have hH := r.gd.sub _ _ hF
                    have hk : DkAt w.F a us := .inl hF
                    refine .inl ⟨a, .dK us, hH, trivial, fun od => ?_⟩
                    have fr : (L2.upd H a (.frz od (.dK us))) a = some (.frz od (.dK us)) := upd_same
                    have rL := r_lockK r hk od
                    have hL2 : SqL K (L2.upd H a (.frz od (.dK us))) L vl := by
                      have hLH : SqL K H L vl := SqL.monoF r.gd.sub hL
                      have neL : ∀ u, H L = some u → (u = .lst vl ∨ ∃ o, u = .frz o (.lst vl)) → L ≠ a := fun u hu hq z => by
                        rw [z, hH] at hu
                        rcases hq with rfl | ⟨o, rfl⟩ <;> cases hu
                      rcases hLH with (h | ⟨o, h⟩) | h
                      · exact .inl (.inl (by rw [upd_ne (neL _ h (.inl rfl))]; exact h))
                      · exact .inl (.inr ⟨o, by rw [upd_ne (neL _ h (.inr ⟨o, rfl⟩))]; exact h⟩)
                      · exact .inr h
                    refine ⟨.ref L, hv, L, vl, c, .ref a, rfl, rfl, hL2, e0, a, od, rfl, .inl ⟨us, fr, fun LL hLL => ?_⟩⟩
                    refine lc_cont (W := ⟨wx, none, rk⟩) hgo ho (by simp) rL (post_open r.gd hF p) (fun w' H' S' j x g' => ?_) (by rw [List.length_map]; exact Nat.le_of_lt (lim_size hl)) LL hLL
                    have fk : H' a = some (.frz od (.dK us)) := g'.sub _ _ (x.le.F a _ put_at)
                    have hlen : kvs.length = us.length := rK.length
                    refine ⟨fun dd e => ⟨⟨fk, ?_⟩, ?_⟩, fun hlj => ⟨fk, by rw [List.length_map] at hlj; omega⟩⟩
                    · have := (List.getElem?_eq_some_iff.mp e).1
                      rw [List.length_map] at this; omega
                    · rintro y H2 ⟨rfl, k, v, e1, rfl⟩
                      have ed := rK.get e1
                      rw [e] at ed
                      cases ed
                      exact ⟨w', .refl _ _, g', rep_key k⟩
                  · have hH := r.gd.sub _ _ hF
                    refine .inr ⟨.ref L, hv, L, vl, c, .ref a, rfl, rfl, SqL.monoF r.gd.sub hL, e0, a, od0, rfl, .inl ⟨us, hH, fun LL hLL => ?_⟩⟩
                    refine lc_cont (W := ⟨wx, none, rk⟩) hgo ho (by simp) r p (fun w' H' S' j x g' => ?_) (by rw [List.length_map]; exact Nat.le_of_lt (lim_size hl)) LL hLL
                    have fk : H' a = some (.frz od0 (.dK us)) := g'.sub _ _ (x.le.F a _ hF)
                    have hlen : kvs.length = us.length := rK.length
                    refine ⟨fun dd e => ⟨⟨fk, ?_⟩, ?_⟩, fun hlj => ⟨fk, by rw [List.length_map] at hlj; omega⟩⟩
                    · have := (List.getElem?_eq_some_iff.mp e).1
                      rw [List.length_map] at this; omega
                    · rintro y H2 ⟨rfl, k, v, e1, rfl⟩
                      have ed := rK.get e1
                      rw [e] at ed
                      cases ed
                      exact ⟨w', .refl _ _, g', rep_key k⟩
              · rw [if_neg hl] at p; exact p.elim
            | _ => exact p.elim
      | _ => exact p.elim
end
section
variable {X : Cx} {W : WZ} {elt tg : Expr} {ifs : List Expr} {scope : Scope} {own : List (Str × Nat)} {pos npos spos cpos : Pos} {cj : Nat} {g : GF} {t : TG} {fc fe : EF} {x : Str} {c : Int}
theorem de_lcKd (i : Nat) (hW : W.xc = none) (hN : X.N.Nodup) (ok : BlkOk X.N X.env.scope scope own)
    (hgo : GOk X.K [] g t) (hg : ∀ (s : Shared) (H : Hp) (C : Addr) (cl : List (Str × Addr)) (fp : List Addr), PG (X.blk s H scope (compEnvC scope cl C X.env) fp) tg t) (ho : TOwn t (own.map (·.2)))
    (ht : ∀ (s : Shared) (H : Hp) (C : Addr) (cl : List (Str × Addr)) (fp : List Addr), DCs (X.blk s H scope (compEnvC scope cl C X.env) fp) W [] ifs fc)
    (he : ∀ (s : Shared) (H : Hp) (C : Addr) (cl : List (Str × Addr)) (fp : List Addr), DE .e (X.blk s H scope (compEnvC scope cl C X.env) fp) W.no [] elt fe)
    (hx : X.N[i]? = some x := by rfl) (hv : Vis X.env.scope x := by first | exact Or.inl rfl | exact Or.inr (Or.inl rfl) | exact Or.inr (Or.inr rfl)) (hd : (x == ("__debug__" : Str)) = false := by decide) (hcd : (x == ("__classdict__" : Str)) = false := by decide)
    (hc : X.calm = true := by rfl) (hs : ∀ y, foldedSetIterable (.Subscript (.Name x npos) (.Constant (.int c) cj cpos) spos) X.env y = pure y := by intro _; rfl) :
    DE .f X W [] (.ListComp elt [⟨tg, .Subscript (.Name x npos) (.Constant (.int c) cj cpos) spos, ifs, 0⟩] scope pos) (eLcKd i c (own.map (·.2)) g fc fe) := by
  have base := pe_lc (pos := pos) (tt := rdT X.K W.no [] fc) (te := rd X.K .e W.no [] fe) hc hN (pi_keys (pe_ix (pos := spos) ix_list (pe_var (pos := npos) hx hv hd hcd) (pe_int (i := c) (j := cj) (pos := cpos)) (fun _ _ => rfl))) ok hg (fun s H C cl fp => (ht s H C cl fp).pts) (fun s H C cl fp => (he s H C cl fp).pe) hs
  exact ⟨((pe_lock base).or base).imp (lcKd_of hW hgo ho)⟩
end
end DL

/-! name += e of numbers, of an own list; an own list extended by a new list -/
namespace DL
open PySem PySem.Spec PyProof.Rows L2
section
variable {X : Cx} {W : WZ} {L : Lp} {O : List Nat} {e : Expr} {fe : EF} {k : Kd} {x : Str} {p pos pos' apos cpos : Pos}
end
section
variable {X : Cx} {W : WZ} {O : List Nat} {e : Expr} {fe : EF}
end
end DL

/-! a call of what an expression gives: one of some defs -/
namespace DL
open PySem PySem.Spec PyProof.Rows L2
section
variable {X : Cx} {W : WZ} {O : List Nat} {fe e : Expr} {es : List Expr} {ff : EF} {fa : AF} {x : Str} {pos : Pos} {n : Nat} {tbl : List (Str × FF)} {k : Nat} {ps : List Str} {g : FF}
/-- the name of a def -/
theorem de_gdef (h : Fok X.prog X.w X.K X.mg X.base x k ps g) (hg : Gl X x := by rfl) (hd : (x == ("__debug__" : Str)) = false := by decide) : DE .e X W O (.Name x pos) (eC (.cls x)) := by
  obtain ⟨fd, F, hb, hk, hm⟩ := h.ex
  exact de_glob (v := .ref (He.ga X.K x)) hm rfl (fun _ => .cls x) hg hd
/-- what is promised of each def of the table -/
structure Dfs (X : Cx) (n : Nat) (tbl : List (Str × FF)) : Prop where
  ok : ∀ x g, tbl.lookup x = some g → ∃ k ps, Fok X.prog X.w X.K X.mg X.base x k ps g ∧ Room k X.A ∧ ps.length = n
theorem dfs_nil : Dfs X n [] := ⟨fun x g h => by cases h⟩
theorem dfs_cons (h : Fok X.prog X.w X.K X.mg X.base x k ps g) (hr : Room k X.A) (t : Dfs X n tbl) (hn : ps.length = n := by rfl) : Dfs X n ((x, g) :: tbl) := ⟨fun y g' e => by
  rw [List.lookup_cons] at e
  by_cases q : (y == x) = true
  · rw [q] at e
    cases e
    have : y = x := by simpa using q
    subst this
    exact ⟨k, ps, h, hr, hn⟩
  · have q' : (y == x) = false := by simpa using q
    rw [q'] at e
    exact t.ok y g' e⟩
theorem de_callV (A : Dfs X n tbl) (tk : Takes X W.wx) (hf : DE .e X W O fe ff) (ha : DA X W O (e :: es) fa)
    (hlen : ∀ ρ S ds S1, fa ρ S = .ok ds S1 → ds.length = n)
    (ht : eval (.Call fe (e :: es) [] pos) X.env = (do callWith pos (← eval fe X.env) [] (backTo pos (starEach (e :: es) X.env)) (backToKw pos (keywordEach [] X.env))) := by rfl)
    (he : starEach (e :: es) X.env = (false, eval e X.env) :: starEach es X.env := by rfl) (hpl : (backTo pos (starEach es X.env)).any (·.1) = false := by rfl) :
    DE .e X W O (.Call fe (e :: es) [] pos) (eCallV tbl ff fa) := by
  refine ⟨⟨fun pins s σ H Q I h => ?_⟩⟩
  obtain ⟨ent, w, ρ, S, r, p⟩ := h
  refine Call_ (thn (hf.pe.run pins s σ H (fun v H1 => ∃ x g, v = .ref (He.ga X.K x) ∧ tbl.lookup x = some g ∧ rd X.K .e W O (eCall g fa) σ H1 Q) I ⟨ent, w, ρ, S, r, p.bind fun d S1 v H1 w1 x1 g1 z1 p1 => ?_⟩) fun u s1 ⟨v, H1, I1, rx, x, g, ev, eg, q⟩ => ?_) ht
  · have z1 : Rep X.K w1 d v := z1
    cases d with
    | cls x =>
      cases z1
      dsimp only at p1
      cases eg : tbl.lookup x with
      | none => rw [eg] at p1; exact p1.elim
      | some g =>
        rw [eg] at p1
        exact ⟨x, g, rfl, eg, ent, w1, ρ, S1, r.later x1 g1, p1⟩
    | _ => exact p1.elim
  · subst ev
    obtain rfl : u = Value.ref (He.ga X.K x) := rx
    obtain ⟨k, ps, h, hr, hn⟩ := A.ok x g eg
    obtain ⟨fd, F, hb, hk, hm⟩ := h.ex
    have h2 := call_of (K := X.K) (W := W) (O := O) (ff := g) (fa := fa) (n := ps.length) (fun ρ S ds S1 e => (hlen ρ S ds S1 e).trans hn.symm) σ H1 Q q
    refine PySem.W.callWith_K (h₀ := X.base) I1.ok.mod.kin hk (thn (ha.pa.run pos pins s1 σ H1 _ I1 h2) fun us s2 ⟨vs, H2, I2, r2, q2⟩ => ⟨I2.kIn, ?_⟩) he hpl
    exact run_fnSD F hr hb .nil (L2.passAt tk σ) I2 r2 q2
end
end DL

namespace H
open DL PySem PySem.Spec PyProof.Rows L2
def b__law_taken : SF :=
  (sSeq (sIf (e2 (iLt fun i j => decide (j < i)) (e2 ixF (eVar 0) (eC (.int 3))) (eC (.int 0))) (sSeq (sSet 2 (e2 modF (eN (f1 intF) (aCons (e2 ixF (eVar 0) (eC (.int 3))) aNil)) (eVar 1)))
  (sSeq (sPutO (eVar 0) (eC (.int 3)) (e2 divF (e2 ixF (eVar 0) (eC (.int 3))) (eVar 1)))
  (sRet (eVar 2)))) sNext)
  (sSeq (sPutO (eVar 0) (eC (.int 1)) (e2 addF (e2 ixF (eVar 0) (eC (.int 1))) (eC (.int 1))))
  (sSeq (sIf (e2 (iLt fun i j => decide (j < i)) (e2 ixF (eVar 0) (eC (.int 1))) (eN (f1 lenF) (aCons (e2 ixF (eVar 0) (eC (.int 0))) aNil))) (sSeq (sPutO (eVar 0) (eC (.int 2)) (e2 modF (eN (f1 intF) (aCons (e2 addF (e2 mulF (e2 ixF (eVar 0) (eC (.int 2))) (eC (.int 48271))) (eC (.int 11))) aNil)) (eC (.int 2147483647))))
  (sRet (e2 modF (eN (f1 intF) (aCons (e2 divF (e2 ixF (eVar 0) (eC (.int 2))) (eC (.int 7))) aNil)) (eVar 1)))) sNext)
  (sSeq (sSet 3 (e2 ixF (e2 ixF (eVar 0) (eC (.int 0))) (e2 subF (e2 ixF (eVar 0) (eC (.int 1))) (eC (.int 1)))))
  (sSeq (sPutO (eVar 0) (eC (.int 2)) (e2 modF (eN (f1 intF) (aCons (e2 addF (e2 addF (e2 mulF (e2 ixF (eVar 0) (eC (.int 2))) (eC (.int 48271))) (eVar 3)) (eC (.int 11))) aNil)) (eC (.int 2147483647))))
  (sSeq (sIf (e2 (iLt fun i j => decide (j ≤ i)) (eVar 3) (e2 powF (eC (.int 10)) (eC (.int 18)))) (sPutO (eVar 0) (eC (.int 3)) (e2 divF (eVar 3) (eVar 1))) sNext)
  (sRet (e2 modF (eN (f1 intF) (aCons (eVar 3) aNil)) (eVar 1)))))))))
def f__law_taken : FF := fnD 4 b__law_taken

def b__law_pick : SF :=
  (sRet (e2 ixF (eVar 1) (eCall f__law_taken (aCons (eVar 0) (aCons (eN (f1 lenF) (aCons (eVar 1) aNil)) aNil)))))
def f__law_pick : FF := fnD 2 b__law_pick

def b_is_class : SF :=
  (sSeq (sIf (eOr (eNot (e1 (isF tb_tuple to_tuple) (eVar 1))) (eOr (e2 neF (eN (f1 lenF) (aCons (eVar 1) aNil)) (eC (.int 4))) (eNot (eCall f_is_word (aCons (e2 ixF (eVar 1) (eC (.int 0))) aNil))))) (sRet (eC (.bl false))) sNext)
  (sSeq (sIf (eOr (e2 inF (e2 ixF (eVar 1) (eC (.int 0))) (eC (.ctp [.str ("top" : Str), .str ("num" : Str), .str ("none" : Str), .str ("odd" : Str), .str ("unset" : Str)]))) (e2 inF (e2 ixF (eVar 1) (eC (.int 0))) (eCall f_names_of (aCons (eVar 0) aNil)))) (sRet (eC (.bl false))) sNext)
  (sRet (eAnd (eCall f_is_word (aCons (e2 ixF (eVar 1) (eC (.int 1))) aNil)) (e2 inF (e2 ixF (eVar 1) (eC (.int 1))) (eCall f_names_of (aCons (eVar 0) aNil)))))))
def f_is_class : FF := fnD 2 b_is_class

def b_are_fields : SF :=
  (sSeq (sIf (eNot (eCall f_is_list (aCons (e2 ixF (eVar 2) (eC (.int 2))) (aCons (eC (.int 4)) aNil)))) (sRet (eC (.bl false))) sNext)
  (sSeq (sSet 3 (eLc2 [5, 4] [4] (iSeq (eCall f_row_of (aCons (eVar 0) (aCons (e2 ixF (eVar 2) (eC (.int 1))) aNil)))) (gtName 5) eYes (iSeq (e2 ixF (eVar 5) (eC (.int 2)))) (gtName 4) eYes (e2 ixF (eVar 4) (eC (.int 0)))))
  (sSeq (sFor (iSeq (e2 ixF (eVar 2) (eC (.int 2)))) (gtName 4) (sSeq (sIf (eOr (eNot (e1 (isF tb_tuple to_tuple) (eVar 4))) (eOr (e2 neF (eN (f1 lenF) (aCons (eVar 4) aNil)) (eC (.int 2))) (eOr (eNot (eCall f_is_word (aCons (e2 ixF (eVar 4) (eC (.int 0))) aNil))) (e2 inF (e2 ixF (eVar 4) (eC (.int 0))) (eVar 3))))) (sRet (eC (.bl false))) sNext)
  (sSeq (sIf (eOr (eNot (eCall f_is_word (aCons (e2 ixF (eVar 4) (eC (.int 1))) aNil))) (eAnd (e2 neF (e2 ixF (eVar 4) (eC (.int 1))) (eC (.str ("num" : Str)))) (e2 notInF (e2 ixF (eVar 4) (eC (.int 1))) (eVar 1)))) (sRet (eC (.bl false))) sNext)
  (sApp 3 (e2 ixF (eVar 4) (eC (.int 0)))))))
  (sRet (eC (.bl true))))))
def f_are_fields : FF := fnD 6 b_are_fields

def b_has_seen : SF :=
  (sRet (eN (f1 anyF) (aCons (eLc2 [4, 5] [5] (iSeq (eCall f_row_of (aCons (eVar 0) (aCons (eVar 1) aNil)))) (gtName 4) eYes (iSeq (e2 ixF (eVar 4) (eVar 3))) (gtName 5) eYes (e2 eqF (e2 ixF (eVar 5) (eC (.int 0))) (eVar 2))) aNil)))
def f_has_seen : FF := fnD 6 b_has_seen

def b_is_step : SF :=
  (sSeq (sSet 3 (e2 ixF (eVar 1) (eVar 2)))
  (sSeq (sIf (eOr (eNot (e1 (isF tb_tuple to_tuple) (eVar 3))) (eOr (e2 eqE (eVar 3) (eTup aNil)) (eNot (e1 (isF tb_str to_str) (e2 ixF (eVar 3) (eC (.int 0))))))) (sRet (eC (.bl false))) sNext)
  (sSeq (sIf (eAnd (e2 eqF (eVar 2) (e2 subF (eN (f1 lenF) (aCons (eVar 1) aNil)) (eC (.int 1)))) (e2 notInF (e2 ixF (eVar 3) (eC (.int 0))) (eC (.ctp [.str ("give" : Str), .str ("go" : Str), .str ("throw" : Str)])))) (sRet (eC (.bl false))) sNext)
  (sSeq (sIf (e2 eqF (eN (f1 lenF) (aCons (eVar 3) aNil)) (eC (.int 1))) (sRet (e2 inF (e2 ixF (eVar 3) (eC (.int 0))) (eC (.ctp [.str ("none" : Str), .str ("add" : Str), .str ("less" : Str), .str ("same" : Str), .str ("give" : Str), .str ("throw" : Str), .str ("enter" : Str), .str ("leave" : Str), .str ("copy" : Str), .str ("drop" : Str), .str ("print" : Str)])))) sNext)
  (sSeq (sIf (e2 eqF (eN (f1 lenF) (aCons (eVar 3) aNil)) (eC (.int 2))) (sSeq (sSet 4 (eDisp (((eC (.str ("push" : Str))), (eC (.int 15))) :: (((eC (.str ("take" : Str))), (e2 subF (eC (.int 4)) (eC (.int 1)))) :: (((eC (.str ("keep" : Str))), (e2 subF (eC (.int 4)) (eC (.int 1)))) :: (((eC (.str ("go" : Str))), (e2 subF (eN (f1 lenF) (aCons (eVar 1) aNil)) (eC (.int 1)))) :: (((eC (.str ("if" : Str))), (e2 subF (eN (f1 lenF) (aCons (eVar 1) aNil)) (eC (.int 1)))) :: [])))))))
  (sSeq (sIf (e2 inF (e2 ixF (eVar 3) (eC (.int 0))) (eVar 4)) (sRet (eCall f_is_in (aCons (e2 ixF (eVar 3) (eC (.int 1))) (aCons (eC (.int 0)) (aCons (e2 ixF (eVar 4) (e2 ixF (eVar 3) (eC (.int 0)))) aNil))))) sNext)
  (sRet (eAnd (e2 inF (e2 ixF (eVar 3) (eC (.int 0))) (eTup (aCons (eC (.str ("new" : Str))) (aCons (eC (.str ("cast" : Str))) (aCons (eC (.str ("is" : Str))) aNil))))) (eAnd (eCall f_is_word (aCons (e2 ixF (eVar 3) (eC (.int 1))) aNil)) (e2 inF (e2 ixF (eVar 3) (eC (.int 1))) (eCall f_names_of (aCons (eVar 0) aNil)))))))) sNext)
  (sSeq (sIf (eOr (e2 neF (eN (f1 lenF) (aCons (eVar 3) aNil)) (eC (.int 3))) (eOr (eNot (eCall f_is_word (aCons (e2 ixF (eVar 3) (eC (.int 1))) aNil))) (eNot (eCall f_is_word (aCons (e2 ixF (eVar 3) (eC (.int 2))) aNil))))) (sRet (eC (.bl false))) sNext)
  (sSeq (sSet 5 (eDisp (((eC (.str ("get" : Str))), (eC (.int 2))) :: (((eC (.str ("put" : Str))), (eC (.int 2))) :: (((eC (.str ("call" : Str))), (eC (.int 3))) :: [])))))
  (sRet (eAnd (e2 inF (e2 ixF (eVar 3) (eC (.int 0))) (eVar 5)) (eCall f_has_seen (aCons (eVar 0) (aCons (e2 ixF (eVar 3) (eC (.int 1))) (aCons (e2 ixF (eVar 3) (eC (.int 2))) (aCons (e2 ixF (eVar 5) (e2 ixF (eVar 3) (eC (.int 0)))) aNil))))))))))))))
def f_is_step : FF := fnD 6 b_is_step

def b_is_handler : SF :=
  (sSeq (sIf (eOr (eNot (e1 (isF tb_tuple to_tuple) (eVar 2))) (eOr (e2 neF (eN (f1 lenF) (aCons (eVar 2) aNil)) (eC (.int 4))) (eNot (eCall f_is_in (aCons (e2 ixF (eVar 2) (eC (.int 0))) (aCons (eC (.int 0)) (aCons (e2 subF (eN (f1 lenF) (aCons (eVar 1) aNil)) (eC (.int 1))) aNil))))))) (sRet (eC (.bl false))) sNext)
  (sSeq (sIf (eOr (eNot (eCall f_is_in (aCons (e2 ixF (eVar 2) (eC (.int 1))) (aCons (e2 addF (e2 ixF (eVar 2) (eC (.int 0))) (eC (.int 1))) (aCons (eN (f1 lenF) (aCons (eVar 1) aNil)) aNil))))) (eOr (eNot (eCall f_is_word (aCons (e2 ixF (eVar 2) (eC (.int 2))) aNil))) (e2 notInF (e2 ixF (eVar 2) (eC (.int 2))) (eCall f_names_of (aCons (eVar 0) aNil))))) (sRet (eC (.bl false))) sNext)
  (sRet (eCall f_is_in (aCons (e2 ixF (eVar 2) (eC (.int 3))) (aCons (eC (.int 0)) (aCons (e2 subF (eN (f1 lenF) (aCons (eVar 1) aNil)) (eC (.int 1))) aNil)))))))
def f_is_handler : FF := fnD 3 b_is_handler

def b_check_code : SF :=
  (sSeq (sSet 4 (e2 ixF (eVar 3) (eC (.int 3))))
  (sSeq (sIf (eOr (eNot (eCall f_is_list (aCons (eVar 4) (aCons (eC (.int 20)) aNil)))) (e2 eqE (eVar 4) (eTup aNil))) (sRaise ("BadCode" : Str) [("index" : Str), ("place" : Str), ("step" : Str)] (aCons (eVar 1) (aCons (eVar 2) (aCons (eC .non) aNil)))) sNext)
  (sSeq (sFor (iRange1 (aCons (eN (f1 lenF) (aCons (eVar 4) aNil)) aNil)) (gtName 5) (sIf (eNot (eCall f_is_step (aCons (eVar 0) (aCons (eVar 4) (aCons (eVar 5) aNil))))) (sRaise ("BadCode" : Str) [("index" : Str), ("place" : Str), ("step" : Str)] (aCons (eVar 1) (aCons (eVar 2) (aCons (eVar 5) aNil)))) sNext))
  (sSeq (sIf (eNot (eCall f_is_list (aCons (e2 ixF (eVar 3) (eC (.int 4))) (aCons (eC (.int 4)) aNil)))) (sRaise ("BadHandlers" : Str) [("index" : Str), ("place" : Str), ("row" : Str)] (aCons (eVar 1) (aCons (eVar 2) (aCons (eC .non) aNil)))) sNext)
  (sFor (iEn (aCons (e2 ixF (eVar 3) (eC (.int 4))) aNil)) (gtTup (gtCons (gtName 6) (gtCons (gtName 7) gtNil))) (sIf (eNot (eCall f_is_handler (aCons (eVar 0) (aCons (eVar 4) (aCons (eVar 7) aNil))))) (sRaise ("BadHandlers" : Str) [("index" : Str), ("place" : Str), ("row" : Str)] (aCons (eVar 1) (aCons (eVar 2) (aCons (eVar 6) aNil)))) sNext))))))
def f_check_code : FF := fnD 8 b_check_code

def b_is_method : SF :=
  (sSeq (sSet 4 (e2 ixF (e2 ixF (eVar 2) (eC (.int 3))) (eVar 3)))
  (sSeq (sIf (eOr (eNot (e1 (isF tb_tuple to_tuple) (eVar 4))) (eOr (e2 neF (eN (f1 lenF) (aCons (eVar 4) aNil)) (eC (.int 5))) (eNot (eCall f_is_word (aCons (e2 ixF (eVar 4) (eC (.int 0))) aNil))))) (sRet (eC (.bl false))) sNext)
  (sSeq (sIf (eOr (e2 inF (e2 ixF (eVar 4) (eC (.int 0))) (eLc [6] (iSeq (eSl slF (e2 ixF (eVar 2) (eC (.int 3))) (eC .non) (e1 ptF (eVar 3)))) (gtName 6) eYes (e2 ixF (eVar 6) (eC (.int 0))))) (eNot (eCall f_is_list (aCons (e2 ixF (eVar 4) (eC (.int 1))) (aCons (eC (.int 3)) aNil))))) (sRet (eC (.bl false))) sNext)
  (sSeq (sIf (eOr (eNot (eN (f1 allF) (aCons (eLc [7] (iSeq (e2 ixF (eVar 4) (eC (.int 1)))) (gtName 7) eYes (eCall f_is_kind_in (aCons (eVar 1) (aCons (eVar 7) aNil)))) aNil))) (eNot (eCall f_is_kind_in (aCons (eVar 1) (aCons (e2 ixF (eVar 4) (eC (.int 2))) aNil))))) (sRet (eC (.bl false))) sNext)
  (sSeq (sFor (iSeq (eCall f_row_of (aCons (eVar 0) (aCons (e2 ixF (eVar 2) (eC (.int 1))) aNil)))) (gtName 5) (sFor (iSeq (e2 ixF (eVar 5) (eC (.int 3)))) (gtName 6) (sIf (eAnd (e2 eqF (e2 ixF (eVar 6) (eC (.int 0))) (e2 ixF (eVar 4) (eC (.int 0)))) (e2 neF (eSl slF (eVar 6) (e1 ptF (eC (.int 1))) (e1 ptF (eC (.int 3)))) (eSl slF (eVar 4) (e1 ptF (eC (.int 1))) (e1 ptF (eC (.int 3)))))) (sRet (eC (.bl false))) sNext)))
  (sRet (eC (.bl true))))))))
def f_is_method : FF := fnD 8 b_is_method

def b_check_classes : SF :=
  (sSeq (sIf (eOr (eNot (eCall f_is_list (aCons (eVar 0) (aCons (eC (.int 8)) aNil)))) (e2 eqE (eVar 0) (eTup aNil))) (sRaise ("BadClasses" : Str) [("index" : Str)] (aCons (eC .non) aNil)) sNext)
  (sSeq (sFor (iEn (aCons (eVar 0) aNil)) (gtTup (gtCons (gtName 1) (gtCons (gtName 2) gtNil))) (sIf (eNot (eCall f_is_class (aCons (eSl slF (eVar 0) (eC .non) (e1 ptF (eVar 1))) (aCons (eVar 2) aNil)))) (sRaise ("BadClasses" : Str) [("index" : Str)] (aCons (eVar 1) aNil)) sNext))
  (sSeq (sSet 3 (eCall f_names_of (aCons (eVar 0) aNil)))
  (sSeq (sFor (iEn (aCons (eVar 0) aNil)) (gtTup (gtCons (gtName 1) (gtCons (gtName 2) gtNil))) (sSeq (sIf (eNot (eCall f_are_fields (aCons (eSl slF (eVar 0) (eC .non) (e1 ptF (eVar 1))) (aCons (eVar 3) (aCons (eVar 2) aNil))))) (sRaise ("BadFields" : Str) [("index" : Str)] (aCons (eVar 1) aNil)) sNext)
  (sSeq (sIf (eNot (eCall f_is_list (aCons (e2 ixF (eVar 2) (eC (.int 3))) (aCons (eC (.int 4)) aNil)))) (sRaise ("BadMethods" : Str) [("index" : Str), ("place" : Str)] (aCons (eVar 1) (aCons (eC .non) aNil))) sNext)
  (sFor (iRange1 (aCons (eN (f1 lenF) (aCons (e2 ixF (eVar 2) (eC (.int 3))) aNil)) aNil)) (gtName 4) (sIf (eNot (eCall f_is_method (aCons (eSl slF (eVar 0) (eC .non) (e1 ptF (eVar 1))) (aCons (eVar 3) (aCons (eVar 2) (aCons (eVar 4) aNil)))))) (sRaise ("BadMethods" : Str) [("index" : Str), ("place" : Str)] (aCons (eVar 1) (aCons (eVar 4) aNil))) sNext)))))
  (sFor (iEn (aCons (eVar 0) aNil)) (gtTup (gtCons (gtName 1) (gtCons (gtName 2) gtNil))) (sFor (iEn (aCons (e2 ixF (eVar 2) (eC (.int 3))) aNil)) (gtTup (gtCons (gtName 4) (gtCons (gtName 5) gtNil))) (sExpr (eCall f_check_code (aCons (eVar 0) (aCons (eVar 1) (aCons (eVar 4) (aCons (eVar 5) aNil))))))))))))
def f_check_classes : FF := fnD 6 b_check_classes

def b_House___init__ : SF :=
  (sSeq (sExpr (eCall f_check_classes (aCons (eVar 1) aNil)))
  (sFldO [("House" : Str)] ("told" : Str) (eVar 0) (eVar 1)))
def f_House___init__ : FF := fnD 2 b_House___init__

end H

namespace H
open DL PySem PySem.Spec PyProof.Rows L2 H
end H

namespace H
open DL PySem PySem.Spec PyProof.Rows L2 H
end H

set_option maxHeartbeats 4000000
namespace K53
open DL PySem PySem.Spec PyProof.Rows L2 H
end K53

set_option maxHeartbeats 0
namespace K53
open DL PySem PySem.Spec PyProof.Rows L2
end K53

set_option maxHeartbeats 4000000
namespace H
open DL PySem PySem.Spec PyProof.Rows L2

/-! ### words in lists -/
theorem eqF_str (a b : Str) : eqF (.str a) (.str b) = some (.bl (decide (a = b))) := by simp [eqF, scalD, eqD_str]
theorem neF_str (a b : Str) : neF (.str a) (.str b) = some (.bl (!decide (a = b))) := by simp [neF, scalD, eqD_str]
theorem eqF_int (a b : Int) : eqF (.int a) (.int b) = some (.bl (decide (a = b))) := by simp [eqF, scalD, eqD_int]
theorem neF_int (a b : Int) : neF (.int a) (.int b) = some (.bl (!decide (a = b))) := by simp [neF, scalD, eqD_int]

/-! ### comprehensions and loops over embedded lists -/
theorem lcD_map {α : Type} {g : GF} {fe : EF} {ρ : DEnv} {S : Sto} (emb val : α → D) : ∀ {l : List α} {acc : List D}, (∀ a ∈ l, ∃ ρ1, g (emb a) ρ = some ρ1 ∧ fe ρ1 S = .ok (val a) S) →
    lcD g eYes fe (l.map emb) acc ρ S = .ok (.lst (acc ++ l.map val)) S
  | [], acc, _ => by simp [lcD]
  | a :: l, acc, h => by
    obtain ⟨ρ1, e1, e2⟩ := h a List.mem_cons_self
    simp only [List.map_cons, lcD, e1, eYes, e2]
    rw [lcD_map emb val fun b hb => h b (List.mem_cons_of_mem _ hb)]
    simp
theorem lcD_filt {α : Type} {g : GF} {fc fe : EF} {ρ : DEnv} {S : Sto} (emb val : α → D) (p : α → Bool) : ∀ {l : List α} {acc : List D}, (∀ a ∈ l, ∃ ρ1, g (emb a) ρ = some ρ1 ∧ fc ρ1 S = .ok (.bl (p a)) S ∧ (p a = true → fe ρ1 S = .ok (val a) S)) →
    lcD g fc fe (l.map emb) acc ρ S = .ok (.lst (acc ++ (l.filter p).map val)) S
  | [], acc, _ => by simp [lcD]
  | a :: l, acc, h => by
    obtain ⟨ρ1, e1, e2, e3⟩ := h a List.mem_cons_self
    simp only [List.map_cons, lcD, e1, e2]
    cases hb : p a with
    | false =>
      simp only [hb]
      rw [lcD_filt emb val p fun b hb => h b (List.mem_cons_of_mem _ hb)]
      simp [hb]
    | true =>
      simp only [e3 hb]
      rw [lcD_filt emb val p fun b hb => h b (List.mem_cons_of_mem _ hb)]
      simp [hb]
/-! ### classes -/
structure Me where
  w : Str
  ins : List Str
  out : Str
  cd : D
  hd : D
/-- the steps, the handlers -/
def Me.code (m : Me) : List D := match m.cd with
  | .tup l => l
  | _ => []
def Me.hs (m : Me) : List D := match m.hd with
  | .tup l => l
  | _ => []
structure Cl where
  n : Str
  u : Str
  fs : List (Str × Str)
  ms : List Me
def dF (f : Str × Str) : D := .tup [.str f.1, .str f.2]
def dM (m : Me) : D := .tup [.str m.w, .tup (m.ins.map .str), .str m.out, m.cd, m.hd]
def dC (c : Cl) : D := .tup [.str c.n, .str c.u, .tup (c.fs.map dF), .tup (c.ms.map dM)]
def dCs (cs : List Cl) : D := .tup (cs.map dC)
abbrev top : Str := "top"
def names (cs : List Cl) : List Str := top :: cs.map Cl.n
theorem lim_le {n : Nat} (h : n ≤ 100000) : n < LIM := Nat.lt_of_le_of_lt h (by decide)
theorem names_ok (cs : List Cl) (S : Sto) (h : cs.length ≤ 1000) : f_names_of [dCs cs] S = .ok (.lst ((names cs).map .str)) S := by
  have e := lcD_map (g := gtName 1) (fe := e2 ixF (eVar 1) (eC (.int 0))) (ρ := [some (dCs cs), none]) (S := S) dC (fun c => .str c.n) (l := cs) (acc := []) (fun c _ => ⟨_, rfl, by simp [e2, ixF, ixS, eVar, eC, dC, deref_tup, deref_int, atI_0]⟩)
  have hl : cs.length + 1 < LIM := lim_le (by omega)
  simp [f_names_of, b_names_of, fnD, sRet, sBind, eLst, aCons, aNil, aStar, eC, eLc, iSeq, eVar, dCs, wipeD, itemsD, deref_lst, names] at e ⊢
  simp [e, hl]

/-! ### the classes upward -/
def rowStep (s : (Str × List Cl) × Option D) (c : Cl) : (Str × List Cl) × Option D := (if c.n = s.1.1 then (c.u, s.1.2 ++ [c]) else s.1, some (dC c))
def rowOf (cs : List Cl) (n : Str) : List Cl := (cs.reverse.foldl (fun s c => if c.n = s.1 then (c.u, s.2 ++ [c]) else s) (n, ([] : List Cl))).2
theorem rowStep_fst (l : List Cl) : ∀ (s : (Str × List Cl) × Option D), (l.foldl rowStep s).1 = l.foldl (fun s c => if c.n = s.1 then (c.u, s.2 ++ [c]) else s) s.1 := by
  induction l with
  | nil => intro s; rfl
  | cons c l ih => intro s; simp only [List.foldl_cons]; rw [ih]; rfl
theorem foldl_len (l : List Cl) : ∀ (s : Str × List Cl), (l.foldl (fun s c => if c.n = s.1 then (c.u, s.2 ++ [c]) else s) s).2.length ≤ s.2.length + l.length := by
  induction l with
  | nil => intro s; simp
  | cons c l ih =>
    intro s
    simp only [List.foldl_cons, List.length_cons]
    refine Nat.le_trans (ih _) ?_
    split <;> simp <;> omega
def rowBody : SF := (sIf (e2 eqF (e2 ixF (eVar 3) (eC (.int 0))) (eVar 1)) (sSeq (sApp 2 (eVar 3)) (sSet 1 (e2 ixF (eVar 3) (eC (.int 1))))) sNext)
theorem row_loop (x0 : Option D) (S : Sto) (l : List Cl) : ∀ (s : (Str × List Cl) × Option D), s.1.2.length + l.length ≤ 1000 →
    forD (gtName 3) rowBody (l.map dC) [x0, some (.str s.1.1), some (.lst (s.1.2.map dC)), s.2] S = .nx [x0, some (.str (l.foldl rowStep s).1.1), some (.lst ((l.foldl rowStep s).1.2.map dC)), (l.foldl rowStep s).2] S := by
  induction l with
  | nil => intro s _; rfl
  | cons c l ih =>
    intro s hs
    simp only [List.length_cons] at hs
    have hl : s.1.2.length < LIM := lim_le (by omega)
    have hb : rowBody [x0, some (.str s.1.1), some (.lst (s.1.2.map dC)), some (dC c)] S = .nx [x0, some (.str (rowStep s c).1.1), some (.lst ((rowStep s c).1.2.map dC)), (rowStep s c).2] S := by
      by_cases h : c.n = s.1.1
      · simp [rowBody, fnD, sSeq, sIf, sBind, sRet, sNext, sSet, sExpr, sRaise, e1, e2, eVar, eC, eN, eCall, eAnd, eOr, eNot, eIf, eIsN, eNotN, isNonF, notNonF, eChain, eTup, eLst, eSl, ptF, optI, aCons, aNil, aStar, itemsD, f1, f2, notF, lenF, tupF, lstF, intF, Ress.bind, deref_non, deref_bl, deref_int, deref_str, deref_tup, deref_ctp, deref_lst, deref_dct, deref_dtt, deref_ins, iSeq, iLt, addF, subF, ixF, ixS, isF, tyB, eqF_str, neF_str, eqF_int, neF_int, Res.ofOpt, Res.bind, atI_0, atI_1, eqE_tup, dC, h, sApp, hl, rowStep]
      · simp [rowBody, fnD, sSeq, sIf, sBind, sRet, sNext, sSet, sExpr, sRaise, e1, e2, eVar, eC, eN, eCall, eAnd, eOr, eNot, eIf, eIsN, eNotN, isNonF, notNonF, eChain, eTup, eLst, eSl, ptF, optI, aCons, aNil, aStar, itemsD, f1, f2, notF, lenF, tupF, lstF, intF, Ress.bind, deref_non, deref_bl, deref_int, deref_str, deref_tup, deref_ctp, deref_lst, deref_dct, deref_dtt, deref_ins, iSeq, iLt, addF, subF, ixF, ixS, isF, tyB, eqF_str, neF_str, eqF_int, neF_int, Res.ofOpt, Res.bind, atI_0, atI_1, eqE_tup, dC, h, rowStep]
    simp only [List.map_cons, List.foldl_cons]
    show (match rowBody [x0, some (.str s.1.1), some (.lst (s.1.2.map dC)), some (dC c)] S with
      | .nx ρ2 S2 => forD (gtName 3) rowBody (l.map dC) ρ2 S2
      | .ct ρ2 S2 => forD (gtName 3) rowBody (l.map dC) ρ2 S2
      | .bk ρ2 S2 => .nx ρ2 S2
      | r => r) = _
    rw [hb]
    refine ih (rowStep s c) ?_
    unfold rowStep
    split <;> simp <;> omega
theorem rowOf_len (cs : List Cl) (n : Str) : (rowOf cs n).length ≤ cs.length := by
  have := foldl_len cs.reverse (n, [])
  simpa [rowOf] using this
theorem row_ok (cs : List Cl) (n : Str) (S : Sto) (h : cs.length ≤ 1000) : f_row_of [dCs cs, .str n] S = .ok (.lst ((rowOf cs n).map dC)) S := by
  have e := row_loop (some (dCs cs)) S cs.reverse ((n, []), none) (by simp; exact h)
  have e2 := rowStep_fst cs.reverse ((n, []), none)
  have e3 : revA (dCs cs) = some (.tup (cs.reverse.map dC)) := by simp [revA, dCs]
  have hb : b_row_of ([some (dCs cs), some (.str n)] ++ List.replicate 2 none) S = .rt (.lst ((rowOf cs n).map dC)) S := by
    show (match forD (gtName 3) rowBody (cs.map dC).reverse [some (dCs cs), some (.str n), some (.lst []), none] S with
      | .nx ρ1 S1 => sRet (eVar 2) ρ1 S1
      | r => r) = _
    rw [← List.map_reverse, show ([some (dCs cs), some (.str n), some (.lst []), none] : DEnv) = [some (dCs cs), some (.str n), some (.lst (([] : List Cl).map dC)), none] from rfl, e]
    show SRes.rt (.lst (List.map dC (cs.reverse.foldl rowStep ((n, []), none)).1.2)) S = _
    rw [e2]
    rfl
  show (match b_row_of ([some (dCs cs), some (.str n)] ++ List.replicate 2 none) S with
    | .rt d S1 => Res.ok d S1
    | .nx _ S1 => .ok .non S1
    | .exn x _ S1 => .exn x S1
    | _ => .stuck) = _
  rw [hb]

/-! ### words -/
/-- a word -/
structure W (s : Str) : Prop where
  w : ∀ S, f_is_word [.str s] S = .ok (.bl true) S
  ok : okD 0 (.str s) = true
def barred : List Str := ["top", "num", "none", "odd", "unset"]
end H

set_option maxHeartbeats 4000000
namespace H
open DL PySem PySem.Spec PyProof.Rows L2

/-! ### comprehensions with two clauses -/
theorem lcDs_map {β : Type} {g : GF} {fe : EF} {ρ : DEnv} {S : Sto} (emb val : β → D) : ∀ {l : List β} {acc : List D}, acc.length + l.length < LIM → (∀ a ∈ l, ∃ ρ1, g (emb a) ρ = some ρ1 ∧ fe ρ1 S = .ok (val a) S) →
    lcDs g eYes fe (l.map emb) acc ρ S = .ok (.lst (acc ++ l.map val)) S
  | [], acc, _, _ => by simp [lcDs]
  | a :: l, acc, hl, h => by
    obtain ⟨ρ1, e1, e2⟩ := h a List.mem_cons_self
    simp only [List.length_cons] at hl
    have ha : acc.length < LIM := by omega
    simp only [List.map_cons, lcDs, e1, eYes, e2, if_pos ha]
    rw [lcDs_map emb val (by simp only [List.length_append, List.length_cons, List.length_nil]; omega) fun b hb => h b (List.mem_cons_of_mem _ hb)]
    simp
theorem lcD2_map {α β : Type} {g g1 : GF} {fi1 : IF} {vs1 : List Nat} {fe : EF} {ρ : DEnv} {S : Sto} (emb : α → D) (inner : α → List β) (embB val : β → D) : ∀ {l : List α} {acc : List D}, acc.length + (l.flatMap inner).length < LIM →
    (∀ a ∈ l, ∃ ρ1, g (emb a) ρ = some ρ1 ∧ fi1 ρ1 S = .ok ((inner a).map embB) S ∧ ∀ b ∈ inner a, ∃ ρ2, g1 (embB b) (wipeD ρ1 vs1) = some ρ2 ∧ fe ρ2 S = .ok (val b) S) →
    lcD2 g eYes fi1 vs1 g1 eYes fe (l.map emb) acc ρ S = .ok (.lst (acc ++ (l.flatMap inner).map val)) S
  | [], acc, _, _ => by simp [lcD2]
  | a :: l, acc, hl, h => by
    obtain ⟨ρ1, e1, e2, e3⟩ := h a List.mem_cons_self
    simp only [List.flatMap_cons, List.length_append] at hl
    have i := lcDs_map (g := g1) (fe := fe) (ρ := wipeD ρ1 vs1) (S := S) embB val (l := inner a) (acc := acc) (by omega) e3
    simp only [List.map_cons, lcD2, e1, eYes, e2]
    rw [i]
    simp only
    rw [lcD2_map emb inner embB val (by simp only [List.length_append, List.length_map]; omega) fun b hb => h b (List.mem_cons_of_mem _ hb)]
    simp

/-! ### what is seen upward -/
/-- sizes that all drawn houses keep -/
def Small (cs : List Cl) : Prop := cs.length ≤ 8 ∧ ∀ c ∈ cs, c.fs.length ≤ 4 ∧ c.ms.length ≤ 4
theorem rowOf_mem {cs : List Cl} {n : Str} {c : Cl} (h : c ∈ rowOf cs n) : c ∈ cs := by
  have : ∀ (l : List Cl) (s : Str × List Cl), (∀ x ∈ s.2, x ∈ cs) → (∀ x ∈ l, x ∈ cs) → ∀ x ∈ (l.foldl (fun s c => if c.n = s.1 then (c.u, s.2 ++ [c]) else s) s).2, x ∈ cs := by
    intro l
    induction l with
    | nil => intro s h1 _ x hx; exact h1 x hx
    | cons a l ih =>
      intro s h1 h2 x hx
      simp only [List.foldl_cons] at hx
      refine ih _ ?_ (fun y hy => h2 y (List.mem_cons_of_mem _ hy)) x hx
      intro y hy
      split at hy
      · rcases List.mem_append.mp hy with hy | hy
        · exact h1 y hy
        · simp at hy; subst hy; exact h2 _ List.mem_cons_self
      · exact h1 y hy
  exact this cs.reverse (n, []) (by simp) (by simp) c h
theorem flat_len {α : Type} {k : Nat} {l : List Cl} (f : Cl → List α) (h : ∀ c ∈ l, (f c).length ≤ k) : (l.flatMap f).length ≤ l.length * k := by
  induction l with
  | nil => simp
  | cons a l ih =>
    simp only [List.flatMap_cons, List.length_append, List.length_cons, Nat.add_mul, Nat.one_mul]
    have := h a List.mem_cons_self
    have := ih fun c hc => h c (List.mem_cons_of_mem _ hc)
    omega
theorem Small.fl {cs : List Cl} (h : Small cs) (n : Str) : ((rowOf cs n).flatMap Cl.fs).length ≤ 32 := by
  have h1 := flat_len (l := rowOf cs n) (k := 4) Cl.fs fun c hc => (h.2 c (rowOf_mem hc)).1
  have h2 := rowOf_len cs n
  have := h.1
  omega
theorem Small.ml {cs : List Cl} (h : Small cs) (n : Str) : ((rowOf cs n).flatMap Cl.ms).length ≤ 32 := by
  have h1 := flat_len (l := rowOf cs n) (k := 4) Cl.ms fun c hc => (h.2 c (rowOf_mem hc)).2
  have h2 := rowOf_len cs n
  have := h.1
  omega
def upF (cs : List Cl) (n : Str) : List Str := ((rowOf cs n).flatMap Cl.fs).map (·.1)
def upM (cs : List Cl) (n : Str) : List Str := ((rowOf cs n).flatMap Cl.ms).map Me.w
theorem bls_map {α : Type} (f : α → Bool) (l : List α) : blsOf (l.map fun a => D.bl (f a)) = some (l.map f) := by
  induction l with
  | nil => rfl
  | cons a l ih => simp [blsOf, ih]
theorem at2_2 (a b c d : D) : L2.atI [a, b, c, d] 2 = some c := rfl
theorem at2_3 (a b c d : D) : L2.atI [a, b, c, d] 3 = some d := rfl
theorem seenF_ok {cs : List Cl} (n w : Str) (S : Sto) (h : Small cs) : f_has_seen [dCs cs, .str n, .str w, .int 2] S = .ok (.bl ((upF cs n).any fun x => decide (x = w))) S := by
  have r := row_ok cs n S (by have := h.1; omega)
  have hl := h.fl n
  have hL : 32 < LIM := by decide
  have e := lcD2_map (g := gtName 4) (g1 := gtName 5) (fi1 := iSeq (e2 ixF (eVar 4) (eVar 3))) (vs1 := [5]) (fe := e2 eqF (e2 ixF (eVar 5) (eC (.int 0))) (eVar 2)) (ρ := [some (dCs cs), some (.str n), some (.str w), some (.int 2), none, none]) (S := S)
    dC Cl.fs dF (fun f => D.bl (decide (f.1 = w))) (l := rowOf cs n) (acc := []) (by simp only [List.length_nil]; omega) (fun c _ => ⟨_, rfl, by simp [fnD, sSeq, sIf, sBind, sRet, sNext, sSet, sExpr, sRaise, e1, e2, eVar, eC, eN, eCall, eAnd, eOr, eNot, eIf, eIsN, eNotN, isNonF, notNonF, eChain, eTup, eLst, eSl, ptF, optI, aCons, aNil, aStar, itemsD, f1, f2, notF, lenF, tupF, lstF, intF, Ress.bind, deref_non, deref_bl, deref_int, deref_str, deref_tup, deref_ctp, deref_lst, deref_dct, deref_dtt, deref_ins, iSeq, iLt, addF, subF, ixF, ixS, isF, tyB, eqF_str, neF_str, eqF_int, neF_int, Res.ofOpt, Res.bind, atI_0, atI_1, eqE_tup, dC, at2_2], fun f _ => ⟨_, rfl, by simp [fnD, sSeq, sIf, sBind, sRet, sNext, sSet, sExpr, sRaise, e1, e2, eVar, eC, eN, eCall, eAnd, eOr, eNot, eIf, eIsN, eNotN, isNonF, notNonF, eChain, eTup, eLst, eSl, ptF, optI, aCons, aNil, aStar, itemsD, f1, f2, notF, lenF, tupF, lstF, intF, Ress.bind, deref_non, deref_bl, deref_int, deref_str, deref_tup, deref_ctp, deref_lst, deref_dct, deref_dtt, deref_ins, iSeq, iLt, addF, subF, ixF, ixS, isF, tyB, eqF_str, neF_str, eqF_int, neF_int, Res.ofOpt, Res.bind, atI_0, atI_1, eqE_tup, dF, wipeD]⟩⟩)
  simp only [f_has_seen, b_has_seen, fnD, sSeq, sIf, sBind, sRet, sNext, sSet, sExpr, sRaise, e1, e2, eVar, eC, eN, eCall, eAnd, eOr, eNot, eIf, eIsN, eNotN, isNonF, notNonF, eChain, eTup, eLst, eSl, ptF, optI, aCons, aNil, aStar, itemsD, f1, f2, notF, lenF, tupF, lstF, intF, Ress.bind, deref_non, deref_bl, deref_int, deref_str, deref_tup, deref_ctp, deref_lst, deref_dct, deref_dtt, deref_ins, iSeq, iLt, addF, subF, ixF, ixS, isF, tyB, eqF_str, neF_str, eqF_int, neF_int, Res.ofOpt, Res.bind, atI_0, atI_1, eqE_tup, eLc2, List.map_cons, List.map_nil, List.length_cons, List.length_nil]
  simp [r, wipeD]
  simp at e
  rw [e]
  have b := bls_map (fun f : Str × Str => decide (f.1 = w)) ((rowOf cs n).flatMap Cl.fs)
  simp [deref_lst, anyF, b, upF, List.any_map]
  rfl
theorem seenM_ok {cs : List Cl} (n w : Str) (S : Sto) (h : Small cs) : f_has_seen [dCs cs, .str n, .str w, .int 3] S = .ok (.bl ((upM cs n).any fun x => decide (x = w))) S := by
  have r := row_ok cs n S (by have := h.1; omega)
  have hl := h.ml n
  have hL : 32 < LIM := by decide
  have e := lcD2_map (g := gtName 4) (g1 := gtName 5) (fi1 := iSeq (e2 ixF (eVar 4) (eVar 3))) (vs1 := [5]) (fe := e2 eqF (e2 ixF (eVar 5) (eC (.int 0))) (eVar 2)) (ρ := [some (dCs cs), some (.str n), some (.str w), some (.int 3), none, none]) (S := S)
    dC Cl.ms dM (fun f => D.bl (decide (f.w = w))) (l := rowOf cs n) (acc := []) (by simp only [List.length_nil]; omega) (fun c _ => ⟨_, rfl, by simp [fnD, sSeq, sIf, sBind, sRet, sNext, sSet, sExpr, sRaise, e1, e2, eVar, eC, eN, eCall, eAnd, eOr, eNot, eIf, eIsN, eNotN, isNonF, notNonF, eChain, eTup, eLst, eSl, ptF, optI, aCons, aNil, aStar, itemsD, f1, f2, notF, lenF, tupF, lstF, intF, Ress.bind, deref_non, deref_bl, deref_int, deref_str, deref_tup, deref_ctp, deref_lst, deref_dct, deref_dtt, deref_ins, iSeq, iLt, addF, subF, ixF, ixS, isF, tyB, eqF_str, neF_str, eqF_int, neF_int, Res.ofOpt, Res.bind, atI_0, atI_1, eqE_tup, dC, at2_3], fun f _ => ⟨_, rfl, by simp [fnD, sSeq, sIf, sBind, sRet, sNext, sSet, sExpr, sRaise, e1, e2, eVar, eC, eN, eCall, eAnd, eOr, eNot, eIf, eIsN, eNotN, isNonF, notNonF, eChain, eTup, eLst, eSl, ptF, optI, aCons, aNil, aStar, itemsD, f1, f2, notF, lenF, tupF, lstF, intF, Ress.bind, deref_non, deref_bl, deref_int, deref_str, deref_tup, deref_ctp, deref_lst, deref_dct, deref_dtt, deref_ins, iSeq, iLt, addF, subF, ixF, ixS, isF, tyB, eqF_str, neF_str, eqF_int, neF_int, Res.ofOpt, Res.bind, atI_0, atI_1, eqE_tup, dM, wipeD]⟩⟩)
  simp only [f_has_seen, b_has_seen, fnD, sSeq, sIf, sBind, sRet, sNext, sSet, sExpr, sRaise, e1, e2, eVar, eC, eN, eCall, eAnd, eOr, eNot, eIf, eIsN, eNotN, isNonF, notNonF, eChain, eTup, eLst, eSl, ptF, optI, aCons, aNil, aStar, itemsD, f1, f2, notF, lenF, tupF, lstF, intF, Ress.bind, deref_non, deref_bl, deref_int, deref_str, deref_tup, deref_ctp, deref_lst, deref_dct, deref_dtt, deref_ins, iSeq, iLt, addF, subF, ixF, ixS, isF, tyB, eqF_str, neF_str, eqF_int, neF_int, Res.ofOpt, Res.bind, atI_0, atI_1, eqE_tup, eLc2, List.map_cons, List.map_nil, List.length_cons, List.length_nil]
  simp [r, wipeD]
  simp at e
  rw [e]
  have b := bls_map (fun f : Me => decide (f.w = w)) ((rowOf cs n).flatMap Cl.ms)
  simp [deref_lst, anyF, b, upM, List.any_map]
  rfl

/-! ### fields -/
def num : Str := "num"
/-- a kind of a field: a number, or a class -/
def Kind (ns : List Str) (k : Str) : Prop := W k ∧ (k = num ∨ k ∈ ns)
structure FieldsOk (cs : List Cl) (ns : List Str) (c : Cl) : Prop where
  len : c.fs.length ≤ 4
  ok : ∀ f ∈ c.fs, W f.1 ∧ Kind ns f.2
  new : ∀ f ∈ c.fs, f.1 ∉ upF cs c.u
  dup : (c.fs.map (·.1)).Nodup
end H

set_option maxHeartbeats 4000000
namespace H
open DL PySem PySem.Spec PyProof.Rows L2
/-! ### statements one by one -/
theorem seq_skip {c : EF} {f rest : SF} {ρ : DEnv} {S S' : Sto} (h : c ρ S = .ok (.bl false) S') : sSeq (sIf c f sNext) rest ρ S = rest ρ S' := by simp [sSeq, sIf, sBind, h, sNext]
theorem seq_set {i : Nat} {f : EF} {rest : SF} {ρ : DEnv} {S S' : Sto} {d : D} (h : f ρ S = .ok d S') : sSeq (sSet i f) rest ρ S = rest (ρ.set i (some d)) S' := by simp [sSeq, sSet, sBind, h]
theorem seq_nx {f rest : SF} {ρ ρ' : DEnv} {S S' : Sto} (h : f ρ S = .nx ρ' S') : sSeq f rest ρ S = rest ρ' S' := by simp [sSeq, h]
theorem if_f {c : EF} {f g : SF} {ρ : DEnv} {S S' : Sto} (h : c ρ S = .ok (.bl false) S') : sIf c f g ρ S = g ρ S' := by simp [sIf, sBind, h]
theorem ret_ok {f : EF} {ρ : DEnv} {S S' : Sto} {d : D} (h : f ρ S = .ok d S') : sRet f ρ S = .rt d S' := by simp [sRet, sBind, h]
theorem for_ok {fi : IF} {g : GF} {body : SF} {ρ ρ' : DEnv} {S S1 S' : Sto} {xs : List D} (h : fi ρ S = .ok xs S1) (h2 : forD g body xs ρ S1 = .nx ρ' S') : sFor fi g body ρ S = .nx ρ' S' := by simp [sFor, h, h2]
theorem fn_rt {n : Nat} {fb : SF} {ds : List D} {S S' : Sto} {d : D} (h : fb (ds.map some ++ List.replicate (n - ds.length) none) S = .rt d S') : fnD n fb ds S = .ok d S' := by simp [fnD, h]
/-! ### data equal to itself -/
/-! ### methods -/
structure MethOk (cs : List Cl) (ns : List Str) (c : Cl) (i : Nat) (m : Me) : Prop where
  w : W m.w
  new : m.w ∉ (c.ms.take i).map Me.w
  len : m.ins.length ≤ 3
  ins : ∀ k ∈ m.ins, Kind ns k
  out : Kind ns m.out
  same : ∀ u ∈ rowOf cs c.u, ∀ m' ∈ u.ms, m'.w = m.w → m'.ins = m.ins ∧ m'.out = m.out
end H

set_option maxHeartbeats 4000000
namespace H
open DL PySem PySem.Spec PyProof.Rows L2
/-! ### steps -/
def bareW : List Str := ["none", "add", "less", "same", "give", "throw", "enter", "leave", "copy", "drop", "print"]
def ends : List Str := ["give", "go", "throw"]
inductive StepOk (nms : List Str) (uf um : Str → List Str) (size : Nat) : List D → Prop
  | bare (w : Str) (h : w ∈ bareW) : StepOk nms uf um size [.str w]
  | push (v : Int) (h0 : 0 ≤ v) (h1 : v ≤ 15) : StepOk nms uf um size [.str ("push" : Str), .int v]
  | take (v : Int) (h0 : 0 ≤ v) (h1 : v ≤ 3) : StepOk nms uf um size [.str ("take" : Str), .int v]
  | keep (v : Int) (h0 : 0 ≤ v) (h1 : v ≤ 3) : StepOk nms uf um size [.str ("keep" : Str), .int v]
  | go (v : Int) (h0 : 0 ≤ v) (h1 : v ≤ (size : Int) - 1) : StepOk nms uf um size [.str ("go" : Str), .int v]
  | iff (v : Int) (h0 : 0 ≤ v) (h1 : v ≤ (size : Int) - 1) : StepOk nms uf um size [.str ("if" : Str), .int v]
  | cls (w : Str) (h : w ∈ (["new", "cast", "is"] : List Str)) (n : Str) (hn : W n) (hm : n ∈ nms) : StepOk nms uf um size [.str w, .str n]
  | fld (w : Str) (h : w ∈ (["get", "put"] : List Str)) (n f : Str) (hn : W n) (hf : W f) (hm : f ∈ uf n) : StepOk nms uf um size [.str w, .str n, .str f]
  | call (n m : Str) (hn : W n) (hf : W m) (hm : m ∈ um n) : StepOk nms uf um size [.str ("call" : Str), .str n, .str m]
theorem bare_ok : ∀ w ∈ bareW, okD 0 (.str w) = true := by decide +kernel
theorem words_ok : ∀ w ∈ (["push", "take", "keep", "go", "if", "new", "cast", "is", "get", "put", "call"] : List Str), okD 0 (.str w) = true := by decide +kernel
theorem StepOk.okD {nms : List Str} {uf um : Str → List Str} {size : Nat} {xs : List D} (h : StepOk nms uf um size xs) : okD 1 (.tup xs) = true := by
  refine okD_tup fun d hd => ?_
  cases h <;> simp only [List.mem_cons, List.not_mem_nil, or_false] at hd
  case bare w h => subst hd; exact bare_ok w h
  case cls w h n hn hm =>
    rcases hd with rfl | rfl
    · exact words_ok w (by simp only [List.mem_cons, List.not_mem_nil, or_false] at h ⊢; rcases h with rfl | rfl | rfl <;> simp)
    · exact hn.ok
  case fld w h n f hn hf hm =>
    rcases hd with rfl | rfl | rfl
    · exact words_ok w (by simp only [List.mem_cons, List.not_mem_nil, or_false] at h ⊢; rcases h with rfl | rfl <;> simp)
    · exact hn.ok
    · exact hf.ok
  case call n m hn hf hm =>
    rcases hd with rfl | rfl | rfl
    · exact words_ok _ (by simp)
    · exact hn.ok
    · exact hf.ok
  all_goals
    rcases hd with rfl | rfl
    · exact words_ok _ (by simp)
    · exact okD_int _
/-- what steps ask of classes -/
structure Seen (C : D) (cs : List Cl) : Prop where
  names : ∀ S, f_names_of [C] S = .ok (.lst ((names cs).map .str)) S
  f : ∀ (n w : Str) (S : Sto), f_has_seen [C, .str n, .str w, .int 2] S = .ok (.bl ((upF cs n).any fun x => decide (x = w))) S
  m : ∀ (n w : Str) (S : Sto), f_has_seen [C, .str n, .str w, .int 3] S = .ok (.bl ((upM cs n).any fun x => decide (x = w))) S
theorem Small.seen {cs : List Cl} (h : Small cs) : Seen (dCs cs) cs := ⟨fun S => names_ok cs S (by have := h.1; omega), fun n w S => seenF_ok n w S h, fun n w S => seenM_ok n w S h⟩
end H

set_option maxHeartbeats 4000000
namespace H
open DL PySem PySem.Spec PyProof.Rows L2
/-! ### handlers -/
inductive HandOk (nms : List Str) (size : Nat) : D → Prop
  | mk (b e : Int) (n : Str) (g : Int) (h0 : 0 ≤ b) (h1 : b ≤ (size : Int) - 1) (h2 : b + 1 ≤ e) (h3 : e ≤ size) (hn : W n) (hm : n ∈ nms) (h4 : 0 ≤ g) (h5 : g ≤ (size : Int) - 1) : HandOk nms size (.tup [.int b, .int e, .str n, .int g])
/-! ### codes -/
structure CodeOk (nms : List Str) (uf um : Str → List Str) (m : Me) : Prop where
  isT : m.cd = .tup m.code
  isH : m.hd = .tup m.hs
  len : m.code.length ≤ 20
  ne : m.code ≠ []
  steps : ∀ d ∈ m.code, ∃ xs, d = .tup xs ∧ StepOk nms uf um m.code.length xs
  last : ∀ xs, m.code[m.code.length - 1]? = some (.tup xs) → ∃ w r, xs = .str w :: r ∧ w ∈ ends
  hlen : m.hs.length ≤ 4
  hands : ∀ d ∈ m.hs, HandOk nms m.code.length d
abbrev CodeC (cs : List Cl) (m : Me) : Prop := CodeOk (names cs) (upF cs) (upM cs) m
/-! ### houses -/
structure ClassOk (cs : List Cl) (i : Nat) (c : Cl) : Prop where
  w : W c.n
  bar : c.n ∉ barred
  new : c.n ∉ names (cs.take i)
  u : W c.u
  up : c.u ∈ names (cs.take i)
  fs : FieldsOk (cs.take i) (names cs) c
  ml : c.ms.length ≤ 4
  ms : ∀ j m, c.ms[j]? = some m → MethOk (cs.take i) (names cs) c j m
  code : ∀ m ∈ c.ms, CodeC cs m
structure HouseOk (cs : List Cl) : Prop where
  len : cs.length ≤ 8
  ne : cs ≠ []
  cl : ∀ i c, cs[i]? = some c → ClassOk cs i c
theorem HouseOk.small {cs : List Cl} (h : HouseOk cs) : Small cs := ⟨h.len, fun c hc => by
  obtain ⟨i, hi⟩ := List.mem_iff_getElem?.mp hc
  exact ⟨(h.cl i c hi).fs.len, (h.cl i c hi).ml⟩⟩
theorem Small.take {cs : List Cl} (h : Small cs) (i : Nat) : Small (cs.take i) := ⟨by have := h.1; simp; omega, fun c hc => h.2 c (List.mem_of_mem_take hc)⟩
end H

set_option maxHeartbeats 4000000
namespace H
open DL PySem PySem.Spec PyProof.Rows L2
/-! ### expressions one by one -/
theorem e2_ok {g : D → D → Option D} {fa fb : EF} {ρ : DEnv} {S S1 S2 : Sto} {x y d : D} (h1 : fa ρ S = .ok x S1) (h2 : fb ρ S1 = .ok y S2) (h3 : g (deref S2 x) (deref S2 y) = some d) : e2 g fa fb ρ S = .ok d S2 := by
  simp only [e2, h1, Res.bind, h2, h3, Res.ofOpt]
theorem nil_ok {ρ : DEnv} {S : Sto} : aNil ρ S = .ok [] S := rfl
theorem cons_ok {f : EF} {g : AF} {ρ : DEnv} {S S1 S2 : Sto} {d : D} {ds : List D} (h1 : f ρ S = .ok d S1) (h2 : g ρ S1 = .ok ds S2) : aCons f g ρ S = .ok (d :: ds) S2 := by
  simp only [aCons, h1, h2]
theorem lst_ok {fa : AF} {ρ : DEnv} {S S1 : Sto} {ds : List D} (h1 : fa ρ S = .ok ds S1) (h2 : ds.length ≤ 1000) : eLst fa ρ S = .ok (.lst ds) S1 := by
  have : ds.length < LIM := lim_le (by omega)
  simp only [eLst, h1, this, if_true]
theorem tup_ok {fa : AF} {ρ : DEnv} {S S1 : Sto} {ds : List D} (h1 : fa ρ S = .ok ds S1) (h2 : ds.length ≤ 1000) : eTup fa ρ S = .ok (.tup ds) S1 := by
  have : ds.length < LIM := lim_le (by omega)
  simp only [eTup, h1, this, if_true]
theorem call_ok {ff : FF} {fa : AF} {ρ : DEnv} {S S1 : Sto} {ds : List D} {r : Res} (h1 : fa ρ S = .ok ds S1) (h2 : ff ds S1 = r) : eCall ff fa ρ S = r := by
  simp only [eCall, h1, Ress.bind, h2]
theorem eN_ok {g : List D → Option D} {fa : AF} {ρ : DEnv} {S S1 : Sto} {ds : List D} {d : D} (h1 : fa ρ S = .ok ds S1) (h2 : g (ds.map (deref S1)) = some d) : eN g fa ρ S = .ok d S1 := by
  simp only [eN, h1, Ress.bind, h2, Res.ofOpt]
theorem var_ok {i : Nat} {ρ : DEnv} {S : Sto} {d : D} (h : ρ[i]? = some (some d)) : eVar i ρ S = .ok d S := by
  simp only [eVar, h]
theorem c_ok {d : D} {ρ : DEnv} {S : Sto} : eC d ρ S = .ok d S := rfl
theorem if_tt {c f g : EF} {ρ : DEnv} {S S1 : Sto} {r : Res} (h : c ρ S = .ok (.bl true) S1) (h2 : f ρ S1 = r) : eIf c f g ρ S = r := by
  simp only [eIf, h, Res.bind, h2]
theorem if_ff {c f g : EF} {ρ : DEnv} {S S1 : Sto} {r : Res} (h : c ρ S = .ok (.bl false) S1) (h2 : g ρ S1 = r) : eIf c f g ρ S = r := by
  simp only [eIf, h, Res.bind, h2]
theorem par_ok {is : List Nat} {f : AF} {ρ : DEnv} {S S1 : Sto} {ds : List D} (h : f ρ S = .ok ds S1) : sPar is f ρ S = .nx (putD' ρ is ds) S1 := by
  simp only [sPar, h]
theorem lc_ok {vs : List Nat} {fi : IF} {g : GF} {fc fe : EF} {ρ : DEnv} {S S1 : Sto} {ds : List D} {r : Res} (h : fi ρ S = .ok ds S1) (h2 : lcD g fc fe ds [] (wipeD ρ vs) S1 = r) : eLc vs fi g fc fe ρ S = r := by
  simp only [eLc, h, h2]
theorem seq_ok {f : EF} {ρ : DEnv} {S S1 : Sto} {ds : List D} (h : f ρ S = .ok (.lst ds) S1) : iSeq f ρ S = .ok ds S1 := by simp only [iSeq, h]
theorem range_ok {f : AF} {ρ : DEnv} {S S1 : Sto} {n : Nat} (h : f ρ S = .ok [.int n] S1) (hn : n ≤ 1000) : iRange1 f ρ S = .ok (dInts 0 n) S1 := by
  have h1 : n < LIM := lim_le (by omega)
  have h2 : -(4611686018427387904 : Int) ≤ (n : Int) := by omega
  simp [iRange1, h, h1, h2]
/-! ### draws -/
def row (cells : List Int) (n : Nat) (seed pend : Int) (T : Sto) : Sto := SO.lst [.lst (cells.map D.int), .int n, .int seed, .int pend] :: T
/-- the store: the row of draws first, T behind it -/
def Row (cells : List Int) (T S : Sto) : Prop := ∃ n seed pend, S = row cells n seed pend T
theorem taken_row0 (cells : List Int) (T : Sto) (n : Nat) (seed pend m : Int) (h0 : 0 < m) (h1 : m < 1073741824) :
    ∃ (r : Int) (n' : Nat) (seed' pend' : Int), f__law_taken [.obj 0, .int m] (row cells n seed pend T) = .ok (.int r) (row cells n' seed' pend' T) ∧ 0 ≤ r ∧ r < m := by
  by_cases hp : 0 < pend
  · refine ⟨pend % m, n, seed, pend / m, ?_, Int.emod_nonneg _ (by omega), Int.emod_lt_of_pos _ h0⟩
    simp [f__law_taken, b__law_taken, fnD, sSeq, sIf, sBind, e2, eVar, eC, deref, ixF, ixS, L2.atI, ixN, row, iLt, hp, sSet, eN, aCons, aNil, f1, intF, modF, h0, sPutO, setO, divF, h1, sRet, Ress.bind]
  · by_cases hn : n + 1 > cells.length
    · refine ⟨(((seed * 48271 + 11) % 2147483647) / 7) % m, n + 1, (seed * 48271 + 11) % 2147483647, pend, ?_, Int.emod_nonneg _ (by omega), Int.emod_lt_of_pos _ h0⟩
      have hn' : (cells.length : Int) < (n : Int) + 1 := by omega
      simp [f__law_taken, b__law_taken, fnD, sSeq, sIf, sBind, e2, eVar, eC, deref, ixF, ixS, L2.atI, ixN, row, iLt, hp, sSet, eN, aCons, aNil, f1, intF, modF, h0, sPutO, setO, divF, h1, sRet, Ress.bind, sNext, addF, lenF, hn', mulF]
    · have hn' : ¬ (cells.length : Int) < (n : Int) + 1 := by omega
      have hl : n < cells.length := by omega
      have hat : L2.atI (cells.map D.int) ((n : Int) + 1 - 1) = some (.int cells[n]) := by
        unfold L2.atI ixN
        have e1 : (n : Int) + 1 - 1 = (n : Int) := by omega
        rw [e1, if_pos (Int.natCast_nonneg n), if_pos (by simpa using hl)]
        simp [hl]
      by_cases hc : (10 : Int) ^ 18 ≤ cells[n]
      · refine ⟨cells[n] % m, n + 1, (seed * 48271 + cells[n] + 11) % 2147483647, cells[n] / m, ?_, Int.emod_nonneg _ (by omega), Int.emod_lt_of_pos _ h0⟩
        have hc' : (1000000000000000000 : Int) ≤ cells[n] := by simpa using hc
        simp [f__law_taken, b__law_taken, fnD, sSeq, sIf, sBind, e2, eVar, eC, deref, ixF, ixS, L2.atI, ixN, row, iLt, hp, sSet, eN, aCons, aNil, f1, intF, modF, h0, sPutO, setO, divF, h1, sRet, Ress.bind, sNext, addF, lenF, hn', mulF, subF, powF, hc', hl]
      · refine ⟨cells[n] % m, n + 1, (seed * 48271 + cells[n] + 11) % 2147483647, pend, ?_, Int.emod_nonneg _ (by omega), Int.emod_lt_of_pos _ h0⟩
        have hc' : ¬ (1000000000000000000 : Int) ≤ cells[n] := by simpa using hc
        simp [f__law_taken, b__law_taken, fnD, sSeq, sIf, sBind, e2, eVar, eC, deref, ixF, ixS, L2.atI, ixN, row, iLt, hp, sSet, eN, aCons, aNil, f1, intF, modF, h0, sPutO, setO, divF, h1, sRet, Ress.bind, sNext, addF, lenF, hn', mulF, subF, powF, hc', hl]
theorem taken_row {cells : List Int} {T S : Sto} {m : Int} (h : Row cells T S) (h0 : 0 < m) (h1 : m < 1073741824) :
    ∃ (r : Nat) (S' : Sto), f__law_taken [.obj 0, .int m] S = .ok (.int r) S' ∧ (r : Int) < m ∧ Row cells T S' := by
  obtain ⟨n, seed, pend, rfl⟩ := h
  obtain ⟨r, n', s', p', e, a, b⟩ := taken_row0 cells T n seed pend m h0 h1
  refine ⟨r.toNat, _, ?_, by omega, n', s', p', rfl⟩
  rw [e]
  congr 2
  omega
theorem pick_row {α : Type} {cells : List Int} {T S : Sto} (emb : α → D) (l : List α) (h : Row cells T S) (hne : l ≠ []) (hl : l.length < 100000) :
    ∃ (a : α) (S' : Sto), f__law_pick [.obj 0, .lst (l.map emb)] S = .ok (emb a) S' ∧ a ∈ l ∧ Row cells T S' := by
  have hp : 0 < l.length := List.length_pos_iff.mpr hne
  obtain ⟨r, S', e, a, b⟩ := taken_row (m := (l.length : Int)) h (by omega) (by omega)
  have hr : r < l.length := by omega
  refine ⟨l[r], S', ?_, List.getElem_mem hr, b⟩
  have at1 : L2.atI (l.map emb) (r : Int) = some (emb l[r]) := by rw [atI_nat (by simpa using hr), List.getElem?_map, List.getElem?_eq_getElem hr]; rfl
  refine fn_rt ?_
  show b__law_pick [some (.obj 0), some (.lst (l.map emb))] S = _
  unfold b__law_pick
  exact ret_ok (by simp [fnD, sSeq, sIf, sBind, sRet, sNext, sSet, sExpr, sRaise, e1, e2, eVar, eC, eN, eCall, eAnd, eOr, eNot, eIf, eIsN, eNotN, isNonF, notNonF, eChain, eTup, eLst, eSl, ptF, optI, aCons, aNil, aStar, itemsD, f1, f2, notF, lenF, tupF, lstF, intF, Ress.bind, deref_non, deref_bl, deref_int, deref_str, deref_tup, deref_ctp, deref_lst, deref_dct, deref_dtt, deref_ins, iSeq, iLt, addF, subF, ixF, ixS, isF, tyB, eqF_str, neF_str, eqF_int, neF_int, Res.ofOpt, Res.bind, atI_0, atI_1, eqE_tup, e, at1])
end H

set_option maxHeartbeats 4000000
namespace H
open DL PySem PySem.Spec PyProof.Rows L2
end H

set_option maxHeartbeats 4000000
namespace H
open DL PySem PySem.Spec PyProof.Rows L2
/-! ### what goes into and out of methods -/
structure Sg where
  ins : List Str
  out : Str
def kinds (ns : List Str) : List Str := "num" :: "num" :: "top" :: ns
end H

set_option maxHeartbeats 4000000
namespace H
open DL PySem PySem.Spec PyProof.Rows L2
/-! ### bare classes -/
end H

set_option maxHeartbeats 4000000
namespace H
open DL PySem PySem.Spec PyProof.Rows L2
/-! ### rows upward, of any things with a name and an upper one -/
end H

set_option maxHeartbeats 4000000
namespace H
open DL PySem PySem.Spec PyProof.Rows L2
/-! ### codes -/
/-! ### handlers -/
end H

set_option maxHeartbeats 4000000
namespace H
open DL PySem PySem.Spec PyProof.Rows L2
/-! ### drawn classes -/
abbrev g3 : GF := (gtTup (gtCons (gtName 11) (gtCons (gtName 12) (gtCons (gtName 13) gtNil))))
abbrev g4 : GF := (gtTup (gtCons (gtName 6) (gtCons (gtName 7) (gtCons (gtName 8) (gtCons (gtName 9) gtNil)))))
end H

set_option maxHeartbeats 4000000
namespace H
open DL PySem PySem.Spec PyProof.Rows L2
section
variable {most steps : Nat} {cs : List Cl}
end
end H

set_option maxHeartbeats 4000000
namespace H
open DL PySem PySem.Spec PyProof.Rows L2
/-! ### alike -/
inductive Al : Nat → D → Prop
  | non (n : Nat) : Al n .non
  | bl (n : Nat) (b : Bool) : Al n (.bl b)
  | int (n : Nat) (i : Int) : Al n (.int i)
  | str (n : Nat) (x : Str) : Al n (.str x)
  | tup (n : Nat) (ds : List D) (hl : ds.length ≤ 1000) (h : ∀ d ∈ ds, Al n d) : Al (n + 1) (.tup ds)
  | lst (n : Nat) (ds : List D) (hl : ds.length ≤ 1000) (h : ∀ d ∈ ds, Al n d) : Al (n + 1) (.lst ds)
theorem Al.mono : ∀ {n m : Nat} {d : D}, Al n d → n ≤ m → Al m d
  | _, _, _, .non _, _ => .non _
  | _, _, _, .bl _ b, _ => .bl _ b
  | _, _, _, .int _ i, _ => .int _ i
  | _, _, _, .str _ x, _ => .str _ x
  | _, m + 1, _, .tup n ds hl h, hm => .tup m ds hl fun d hd => (h d hd).mono (by omega)
  | _, m + 1, _, .lst n ds hl h, hm => .lst m ds hl fun d hd => (h d hd).mono (by omega)
/-! ### houses in the store -/
/-- the names upward -/
def ups (cs : List Cl) (s : Str) : List Str := (rowOf cs s).map Cl.n ++ [top]
end H

set_option maxHeartbeats 4000000
namespace H
open DL PySem PySem.Spec PyProof.Rows L2
/-! ### what two classes have in common, from either side -/
section
variable {most steps : Nat} {cs : List Cl}
end
theorem new_row (cells : List Int) (k : Int) (r : Option D) (rest : DEnv) : sNewO 1 (aCons (eVar 0) (aCons (eC (.int 0)) (aCons (eC (.int k)) (aCons (eC (.int 0)) aNil)))) (some (.lst (cells.map D.int)) :: r :: rest) [] = .nx (some (.lst (cells.map D.int)) :: some (.obj 0) :: rest) (row cells 0 k 0 []) := by
  simp [sNewO, aCons, aNil, eVar, eC, row]
end H

set_option maxHeartbeats 4000000
namespace H
open DL PySem PySem.Spec PyProof.Rows L2
/-! ### rows upward in trees -/
theorem rowOf_app (cs : List Cl) (c : Cl) (s : Str) : rowOf (cs ++ [c]) s = if c.n = s then c :: rowOf cs c.u else rowOf cs s := by
  have gen : ∀ (l : List Cl) (s : Str) (acc : List Cl), (l.foldl (fun s c => if c.n = s.1 then (c.u, s.2 ++ [c]) else s) (s, acc)).2 = acc ++ (l.foldl (fun s c => if c.n = s.1 then (c.u, s.2 ++ [c]) else s) (s, [])).2 := by
    intro l
    induction l with
    | nil => intro s acc; simp
    | cons a l ih =>
      intro s acc
      simp only [List.foldl_cons]
      by_cases h : a.n = s
      · simp only [h, if_true, List.nil_append]
        rw [ih a.u (acc ++ [a]), ih a.u [a]]
        simp
      · simp only [h, if_false]
        exact ih s acc
  unfold rowOf
  simp only [List.reverse_append, List.reverse_cons, List.reverse_nil, List.nil_append, List.cons_append, List.foldl_cons]
  by_cases h : c.n = s
  · simp only [h, if_true]
    exact gen cs.reverse c.u [c]
  · simp only [h, if_false]
theorem ups_app (cs : List Cl) (c : Cl) (s : Str) : ups (cs ++ [c]) s = if c.n = s then s :: ups cs c.u else ups cs s := by
  unfold ups
  rw [rowOf_app]
  by_cases h : c.n = s
  · simp [h]
  · simp [h]
theorem ups_names {cs : List Cl} {s x : Str} (h : x ∈ ups cs s) : x ∈ names cs := by
  rcases List.mem_append.mp h with h | h
  · obtain ⟨c, hc, rfl⟩ := List.mem_map.mp h
    exact List.mem_cons_of_mem _ (List.mem_map_of_mem (rowOf_mem hc))
  · simp at h; subst h; exact List.mem_cons_self
/-- a tree: names are unlike, uppers stand ahead -/
inductive Tr : List Cl → Prop
  | nil : Tr []
  | app (cs : List Cl) (c : Cl) (h : Tr cs) (hn : c.n ∉ names cs) (hu : c.u ∈ names cs) : Tr (cs ++ [c])
theorem ups_trans {cs : List Cl} (t : Tr cs) : ∀ {a b x}, b ∈ ups cs a → x ∈ ups cs b → x ∈ ups cs a := by
  induction t with
  | nil => intro a b x h k; simp [ups, rowOf] at h k ⊢; exact k
  | app cs c h hn hu ih =>
    intro a b x hb hx
    rw [ups_app] at hb hx ⊢
    by_cases ea : c.n = a
    · rw [if_pos ea] at hb ⊢
      rcases List.mem_cons.mp hb with hb | hb
      · subst hb
        rw [if_pos ea] at hx
        exact hx
      · have : c.n ≠ b := fun q => hn (q ▸ ups_names hb)
        rw [if_neg this] at hx
        exact List.mem_cons_of_mem _ (ih hb hx)
    · rw [if_neg ea] at hb ⊢
      have : c.n ≠ b := fun q => hn (q ▸ ups_names hb)
      rw [if_neg this] at hx
      exact ih hb hx
theorem ups_anti {cs : List Cl} (t : Tr cs) : ∀ {a b}, b ∈ ups cs a → a ∈ ups cs b → a = b := by
  induction t with
  | nil =>
    intro a b h k
    simp [ups, rowOf] at h k
    rw [h, k]
  | app cs c h hn hu ih =>
    intro a b hb ha
    rw [ups_app] at hb ha
    by_cases ea : c.n = a
    · rw [if_pos ea] at hb
      rcases List.mem_cons.mp hb with hb | hb
      · exact hb.symm
      · have nb : c.n ≠ b := fun q => hn (q ▸ ups_names hb)
        rw [if_neg nb] at ha
        exact absurd (ups_names ha) (ea ▸ hn)
    · rw [if_neg ea] at hb
      have nb : c.n ≠ b := fun q => hn (q ▸ ups_names hb)
      rw [if_neg nb] at ha
      exact ih hb ha
section
variable {most steps : Nat} {cs : List Cl}
theorem tr_take (h : HouseOk cs) : ∀ k, k ≤ cs.length → Tr (cs.take k) := by
  intro k
  induction k with
  | zero => intro _; simpa using Tr.nil
  | succ k ih =>
    intro hk
    have hi : k < cs.length := by omega
    rw [List.take_add_one, List.getElem?_eq_getElem hi]
    have c := h.cl k cs[k] (List.getElem?_eq_getElem hi)
    exact .app _ _ (ih (by omega)) c.new c.up
theorem HouseOk.tr (h : HouseOk cs) : Tr cs := by
  have := tr_take h cs.length (Nat.le_refl _)
  rwa [List.take_length] at this
end
/-! ### kinds -/
abbrev kU : Str := "unset"
abbrev kO : Str := "odd"
abbrev kN : Str := "num"
abbrev kE : Str := "none"
/-- which kind fits which -/
def Fit (cs : List Cl) (a b : Str) : Prop := a = b ∨ b = kU ∨ (b = kO ∧ a ≠ kU) ∨ ((a ≠ kU ∧ a ≠ kO ∧ a ≠ kN) ∧ (b ≠ kN ∧ b ≠ kE) ∧ (a = kE ∨ b ∈ ups cs a))
instance (cs : List Cl) (a b : Str) : Decidable (Fit cs a b) := by unfold Fit; infer_instance
theorem Fit.refl {cs : List Cl} (a : Str) : Fit cs a a := .inl rfl
theorem Fit.trans {cs : List Cl} (t : Tr cs) {a b c : Str} (h : Fit cs a b) (k : Fit cs b c) : Fit cs a c := by
  rcases h with rfl | rfl | ⟨rfl, ha⟩ | ⟨⟨a1, a2, a3⟩, ⟨b1, b2⟩, h⟩
  · exact k
  · rcases k with rfl | rfl | ⟨_, q⟩ | ⟨⟨q, _⟩, _⟩
    · exact .inr (.inl rfl)
    · exact .inr (.inl rfl)
    · exact absurd rfl q
    · exact absurd rfl q
  · rcases k with rfl | rfl | ⟨rfl, q⟩ | ⟨⟨_, q, _⟩, _⟩
    · exact .inr (.inr (.inl ⟨rfl, ha⟩))
    · exact .inr (.inl rfl)
    · exact .inr (.inr (.inl ⟨rfl, ha⟩))
    · exact absurd rfl q
  · rcases k with rfl | rfl | ⟨rfl, q⟩ | ⟨⟨q1, q2, q3⟩, ⟨c1, c2⟩, k⟩
    · exact .inr (.inr (.inr ⟨⟨a1, a2, a3⟩, ⟨b1, b2⟩, h⟩))
    · exact .inr (.inl rfl)
    · exact .inr (.inr (.inl ⟨rfl, a1⟩))
    · refine .inr (.inr (.inr ⟨⟨a1, a2, a3⟩, ⟨c1, c2⟩, ?_⟩))
      rcases k with rfl | k
      · exact absurd rfl b2
      · rcases h with rfl | h
        · exact .inl rfl
        · exact .inr (ups_trans t h k)
theorem Fit.anti {cs : List Cl} (t : Tr cs) {a b : Str} (h : Fit cs a b) (k : Fit cs b a) : a = b := by
  rcases h with rfl | rfl | ⟨rfl, ha⟩ | ⟨⟨a1, a2, a3⟩, ⟨b1, b2⟩, h⟩
  · rfl
  · rcases k with k | k | ⟨_, q⟩ | ⟨⟨q, _⟩, _⟩
    · exact k.symm
    · exact k
    · exact absurd rfl q
    · exact absurd rfl q
  · rcases k with k | k | ⟨k, q⟩ | ⟨⟨_, q, _⟩, _⟩
    · exact k.symm
    · exact absurd k ha
    · exact k
    · exact absurd rfl q
  · rcases k with k | k | ⟨k, q⟩ | ⟨⟨q1, q2, q3⟩, ⟨c1, c2⟩, k⟩
    · exact k.symm
    · exact absurd k a1
    · exact absurd k a2
    · rcases k with rfl | k
      · exact absurd rfl b2
      · rcases h with rfl | h
        · exact absurd rfl c2
        · exact ups_anti t h k
end H

set_option maxHeartbeats 4000000
namespace H
open DL PySem PySem.Spec PyProof.Rows L2
end H

set_option maxHeartbeats 4000000
namespace H
open DL PySem PySem.Spec PyProof.Rows L2
/-! ### joins -/
end H

set_option maxHeartbeats 4000000
namespace H
open DL PySem PySem.Spec PyProof.Rows L2
/-! ### bare trees make houses -/
/-! ### options -/
abbrev Op := List Str
end H

set_option maxHeartbeats 4000000
namespace H
open DL PySem PySem.Spec PyProof.Rows L2
/-! ### what takes what -/
def tk (cs : List Cl) (o ks : Op) : Bool := decide (o.length = ks.length) && (ks.zip o).all fun p => decide (Fit cs p.1 p.2)
/-- the nearest one -/
def bestOf (cs : List Cl) (l : List Op) (I : List Nat) : Option Nat := I.find? fun i => I.all fun j => tk cs (l.getD j []) (l.getD i [])
end H

set_option maxHeartbeats 4000000
namespace H
open DL PySem PySem.Spec PyProof.Rows L2
/-! ### loops that hand back at the first hit, loops that make a list -/
/-! ### options that take, doubles -/
def dbl (cs : List Cl) (l : List Op) (I : List Nat) (a b : Nat) : Bool := !(I.any fun i => tk cs (l.getD a []) (l.getD i []) && tk cs (l.getD b []) (l.getD i []))
/-! ### no double: one that is nearest -/
def prs (I : List Nat) : List (Nat × Nat) := I.flatMap fun a => (I.filter fun b => decide (a < b)).map fun b => (a, b)
def dbls (cs : List Cl) (l : List Op) (I : List Nat) : List (Nat × Nat) := (prs I).filter fun p => dbl cs l I p.1 p.2
/-! ### papers -/
abbrev Val := Option (Nat × Option Nat)
def dV : Val → D
  | none => .tup [.str "none"]
  | some (i, none) => .tup [.str "one", .int i]
  | some (a, some b) => .tup [.str "two", .int a, .int b]
def paper (cs : List Cl) (l : List Op) (I : List Nat) : Val :=
  if I = [] then none else match bestOf cs l I with
    | some i => some (i, none)
    | none => match (dbls cs l I).head? with
      | some p => some (p.1, some p.2)
      | none => none
end H

set_option maxHeartbeats 4000000
namespace H
open DL PySem PySem.Spec PyProof.Rows L2
def dP (p : Nat × Nat) : D := dV (some (p.1, some p.2))
end H

set_option maxHeartbeats 4000000
namespace H
open DL PySem PySem.Spec PyProof.Rows L2
inductive It : D → Prop
  | int (i : Nat) : It (.int i)
  | bl (b : Bool) : It (.bl b)
  | non : It .non
  | lst (ds : List D) : It (.lst ds)
section
variable {S : Sto} {n : Nat} {cs : List Cl} {l : List Op} {ks : Op}
end
/-! ### papers shown -/
def good (cs : List Cl) (l : List Op) (I : List Nat) (v : Val) : Bool := decide (v = paper cs l I) || decide (v ∈ (dbls cs l I).map fun p => (some (p.1, some p.2) : Val))
/-! ### values that show nothing -/
end H

set_option maxHeartbeats 4000000
namespace H
open DL PySem PySem.Spec PyProof.Rows L2
/-! ### sorted words -/
/-! ### all kinds, by layers -/
def E (sl : List Str) : Nat → List Op
  | 0 => [[]]
  | t + 1 => (E sl t).flatMap fun ks => sl.map fun s => ks ++ [s]
end H

set_option maxHeartbeats 4000000
namespace H
open DL PySem PySem.Spec PyProof.Rows L2
/-! ### classes whose fields and methods are any values -/
structure TC where
  n : Str
  u : Str
  f : D
  m : D
def dT (t : TC) : D := .tup [.str t.n, .str t.u, t.f, t.m]
def ofC (c : Cl) : TC := ⟨c.n, c.u, .tup (c.fs.map dF), .tup (c.ms.map dM)⟩
def namesT (l : List TC) : List Str := top :: l.map TC.n
/-! ### loops that raise -/
/-- what is kept up to a place -/
structure Upto (cs : List Cl) (L : List TC) (p : Nat) : Prop where
  len : L.length ≤ 1000
  small : Small cs
  pl : p ≤ cs.length
  pre : L.take p = (cs.take p).map ofC
  good : ∀ i c, i < p → cs[i]? = some c → FieldsOk (cs.take i) (namesT L) c ∧ c.ms.length ≤ 4 ∧ ∀ j m, c.ms[j]? = some m → MethOk (cs.take i) (namesT L) c j m
theorem Upto.take {cs : List Cl} {L : List TC} {p i : Nat} (h : Upto cs L p) (hi : i ≤ p) : L.take i = (cs.take i).map ofC := by
  have := congrArg (List.take i) h.pre
  rwa [List.take_take, Nat.min_eq_left hi, ← List.map_take, List.take_take, Nat.min_eq_left hi] at this
theorem Upto.at {cs : List Cl} {L : List TC} {p i : Nat} (h : Upto cs L p) (hi : i < p) : ∃ c, cs[i]? = some c ∧ L[i]? = some (ofC c) := by
  have hl : i < cs.length := by have := h.pl; omega
  refine ⟨cs[i], List.getElem?_eq_getElem hl, ?_⟩
  have := congrArg (fun l => l[i]?) h.pre
  simp only [List.getElem?_take, if_pos hi, List.getElem?_map, List.getElem?_eq_getElem hl] at this
  simpa using this
section
variable {cs : List Cl} {L : List TC} {p : Nat} {t : TC} {ns : List Str} {S : Sto} {x4 : Option D}
end
/-! ### the fields of such classes -/
section
variable {cs : List Cl} {t : TC} {ns : List Str} {S : Sto}
end
end H

set_option maxHeartbeats 4000000
namespace H
open DL PySem PySem.Spec PyProof.Rows L2
/-! ### no words -/
theorem gone_ok : W "gone" := ⟨fun S => by kernel_rfl, by decide +kernel⟩
/-! ### fields that are none -/
section
variable {ns seen : List Str} {x0 x2 x5 : Option D} {S : Sto}
end
/-! ### methods that are none -/
section
variable {cs : List Cl} {t : TC} {ns : List Str} {S : Sto} {MS : List D} {q : Nat} {v : D}
end
end H

set_option maxHeartbeats 4000000
namespace H
open DL PySem PySem.Spec PyProof.Rows L2
/-! ### drawn classes with one told otherwise -/
section
variable {most steps : Nat} {cs : List Cl}
theorem Kind.mono {ns ns' : List Str} (h : ∀ n ∈ ns, n ∈ ns') {k : Str} (hk : Kind ns k) : Kind ns' k := ⟨hk.1, hk.2.imp id (h k)⟩
theorem FieldsOk.mono {ns ns' : List Str} {c : Cl} (h : ∀ n ∈ ns, n ∈ ns') (hf : FieldsOk cs ns c) : FieldsOk cs ns' c := ⟨hf.len, fun f q => ⟨(hf.ok f q).1, (hf.ok f q).2.mono h⟩, hf.new, hf.dup⟩
theorem MethOk.mono {ns ns' : List Str} {c : Cl} {i : Nat} {m : Me} (h : ∀ n ∈ ns, n ∈ ns') (hm : MethOk cs ns c i m) : MethOk cs ns' c i m := ⟨hm.w, hm.new, hm.len, fun k q => (hm.ins k q).mono h, hm.out.mono h, hm.same⟩
theorem row_skip (u : Str) : ∀ (r l : List Cl), (∀ c ∈ r, c.n ≠ u) → rowOf (l ++ r) u = rowOf l u
  | [], l, _ => by simp
  | c :: r, l, h => by
    rw [show l ++ c :: r = (l ++ [c]) ++ r by simp, row_skip u r (l ++ [c]) fun c' hc' => h c' (List.mem_cons_of_mem _ hc'), rowOf_app, if_neg (h c List.mem_cons_self)]
end
/-! ### what is told of them -/
def part (fX fY : EF) : EF := (e2 addF (e2 addF (eSl slF (eVar 2) (eC .non) (e1 ptF (eVar 3))) (eLst (aCons (eTup (aCons (eVar 4) (aCons (eVar 5) (aCons fX (aCons fY aNil))))) aNil))) (eSl slF (eVar 2) (e1 ptF (e2 addF (eVar 3) (eC (.int 1)))) (eC .non)))
end H

set_option maxHeartbeats 4000000
namespace H
open DL PySem PySem.Spec PyProof.Rows L2
/-! ### classes without their codes -/
def er (m : Me) : Me := ⟨m.w, m.ins, m.out, .non, .non⟩
/-! ### the first code that cannot stand -/
/-! ### how a code fails -/
section
variable {C : D} {cs : List Cl} {m : Me} {x1 x2 : D} {S : Sto}
end
end H

set_option maxHeartbeats 4000000
namespace H
open DL PySem PySem.Spec PyProof.Rows L2
section
variable {C : D} {cs : List Cl} {code : List D} {s : Nat} {v : D} {S : Sto}
/-! ### steps that cannot stand -/
theorem row_none {cs : List Cl} {n : Str} (h : ∀ c ∈ cs, c.n ≠ n) : rowOf cs n = [] := by
  have := row_skip n cs [] h
  rw [List.nil_append] at this
  rw [this]
  rfl
/-! ### handlers that cannot stand -/
end
end H

set_option maxHeartbeats 4000000
namespace H
open DL PySem PySem.Spec PyProof.Rows L2
/-! ### fields of things, own methods, the nearest method -/
/-! ### places in lists -/
theorem ix_str {ws : List Str} {w : Str} (hW : ∀ x ∈ ws, okD 0 (.str x) = true) (h : w ∈ ws) : ixOf (.lst (ws.map .str)) (.str w) = some (.int (ws.findIdx fun x => decide (x = w))) := by
  have s1 := okD_sh (hW w h) (by decide)
  have s2 : shD (.lst (ws.map .str)) = true := okD_sh (okD_lst (n := 0) fun d hd => by
    obtain ⟨x, hx, rfl⟩ := List.mem_map.mp hd
    exact hW x hx) (by decide)
  simp only [ixOf]
  rw [if_pos ⟨s1, s2⟩, List.findIdx?_map]
  have e : ((fun z => eqD z (.str w)) ∘ D.str) = fun x => decide (x = w) := by
    funext x
    exact eqD_str x w
  rw [e, List.findIdx?_eq_some_of_exists ⟨w, h, by simp⟩]
  rfl
/-! ### the nearest method -/
end H

set_option maxHeartbeats 4000000
namespace H
open DL PySem PySem.Spec PyProof.Rows L2
/-! ### entries and what they come to -/
inductive En
  | cls (s : Str)
  | fld (s f : Str)
  | met (s w : Str)
  deriving DecidableEq
def ixN (cs : List Cl) (s : Str) : Nat := (names cs).findIdx fun x => decide (x = s)
section
variable {cs : List Cl} {S : Sto} {n : Nat}
end
end H

set_option maxHeartbeats 4000000
namespace H
open DL PySem PySem.Spec PyProof.Rows L2
section
variable {cs : List Cl} {S : Sto} {n : Nat}
/-! ### which values are entries -/
def nmE : En → Str
  | .cls s => s
  | .fld s _ => s
  | .met s _ => s
end
end H

set_option maxHeartbeats 4000000
namespace H
open DL PySem PySem.Spec PyProof.Rows L2
/-! ### all entries of a house -/
end H

set_option maxHeartbeats 4000000
namespace H
open DL PySem PySem.Spec PyProof.Rows L2
/-! ### entries of steps and handlers -/
end H

set_option maxHeartbeats 4000000
namespace H
open DL PySem PySem.Spec PyProof.Rows L2
/-! ### the pool of entries -/
end H

set_option maxHeartbeats 4000000
namespace H
open DL PySem PySem.Spec PyProof.Rows L2
/-! ### the two ways to the pool -/
end H

set_option maxHeartbeats 4000000
namespace H
open DL PySem PySem.Spec PyProof.Rows L2
/-! ### the law's own way to the pool -/
end H

set_option maxHeartbeats 4000000
namespace H
open DL PySem PySem.Spec PyProof.Rows L2
/-! ### the law's pool -/
end H

set_option maxHeartbeats 4000000
namespace H
open DL PySem PySem.Spec PyProof.Rows L2
/-! ### what stands in a pool; the table of links -/
end H

set_option maxHeartbeats 4000000
namespace H
open DL PySem PySem.Spec PyProof.Rows L2
/-! ### links are alike to themselves -/
end H

set_option maxHeartbeats 4000000
namespace H
open DL PySem PySem.Spec PyProof.Rows L2
/-! ### the row below an owner -/
end H

set_option maxHeartbeats 4000000
namespace H
open DL PySem PySem.Spec PyProof.Rows L2
/-! ### loops that gather, with a bound -/
/-! ### the nearest method, by its place -/
/-! ### dicts by words -/
/-! ### what a sort comes to -/
end H

set_option maxHeartbeats 4000000
namespace H
open DL PySem PySem.Spec PyProof.Rows L2
/-! ### rows, step by step -/
theorem row_cons {cs : List Cl} (h : Tr cs) : ∀ c ∈ cs, rowOf cs c.n = c :: rowOf cs c.u := by
  induction h with
  | nil => intro c hc; cases hc
  | app cs d h hn hup ih =>
    have up_ne : ∀ c ∈ cs, d.n ≠ c.n ∧ d.n ≠ c.u := fun c hc => by
      refine ⟨fun e => hn (e ▸ List.mem_cons_of_mem _ (List.mem_map_of_mem hc)), fun e => hn ?_⟩
      have : ∀ {l : List Cl}, Tr l → ∀ c ∈ l, c.u ∈ names l := by
        intro l hl
        induction hl with
        | nil => intro c hc; cases hc
        | app l x hl hx hxu ih2 =>
          intro c hc
          have mono : ∀ y, y ∈ names l → y ∈ names (l ++ [x]) := fun y hy => by
            unfold names at hy ⊢
            rw [List.map_append]
            rcases List.mem_cons.mp hy with e | hy
            · exact e ▸ List.mem_cons_self
            · exact List.mem_cons_of_mem _ (List.mem_append_left _ hy)
          rcases List.mem_append.mp hc with hc | hc
          · exact mono _ (ih2 c hc)
          · rw [List.mem_singleton] at hc
            subst hc
            exact mono _ hxu
      rw [e]; exact this h c hc
    intro c hc
    rcases List.mem_append.mp hc with m | m
    · obtain ⟨n1, n2⟩ := up_ne c m
      rw [rowOf_app, rowOf_app, if_neg n1, if_neg n2]
      exact ih c m
    · rw [List.mem_singleton] at m
      subst m
      rw [rowOf_app, if_pos rfl, rowOf_app, if_neg]
      intro e
      rw [← e] at hup
      exact hn hup
/-! ### alike: an object of the store and a list -/
end H

set_option maxHeartbeats 4000000
namespace H
open DL PySem PySem.Spec PyProof.Rows L2
/-! ### rows of methods -/
section
variable {cs : List Cl} {S : Sto} {n : Nat}
end
end H

set_option maxHeartbeats 4000000
namespace H
open DL PySem PySem.Spec PyProof.Rows L2
/-! ### classes with many words -/
end H

set_option maxHeartbeats 1000000
namespace H
open DL PySem PySem.Spec PyProof.Rows L2 H
/-- a row's names, uppermost first -/
def wnt (cs : List Cl) (s : Str) : List Str := ((rowOf cs s).map Cl.n).reverse
def addN (l : List Str) (y : Str) : List Str := if y ∈ l then l else l ++ [y]
/-- a row of names that holds, ahead of each, all uppers -/
structure Cls (cs : List Cl) (l : List Str) : Prop where
  nd : l.Nodup
  mem : ∀ x ∈ l, x ∈ cs.map Cl.n
  up : ∀ i x, l[i]? = some x → ∀ y ∈ ((rowOf cs x).tail.map Cl.n), y ∈ l.take i
theorem addN_mem {l : List Str} {y x : Str} : x ∈ addN l y ↔ x ∈ l ∨ x = y := by
  unfold addN
  split
  · constructor
    · exact .inl
    · rintro (h | rfl)
      · exact h
      · assumption
  · simp
theorem Cls.nil {cs : List Cl} : Cls cs [] := ⟨.nil, fun x h => (by cases h), fun i x h => (by simp at h)⟩
theorem Cls.add {cs : List Cl} {l : List Str} {y : Str} (h : Cls cs l) (hy : y ∈ cs.map Cl.n) (hu : ∀ z ∈ ((rowOf cs y).tail.map Cl.n), z ∈ l) : Cls cs (addN l y) := by
  unfold addN
  split
  · exact h
  · rename_i hn
    refine ⟨?_, fun x hx => ?_, fun i x hx z hz => ?_⟩
    · rw [List.nodup_append]
      exact ⟨h.nd, by simp, fun a ha b hb => by rw [List.mem_singleton] at hb; subst hb; exact fun e => hn (e ▸ ha)⟩
    · rcases List.mem_append.mp hx with q | q
      · exact h.mem x q
      · rw [List.mem_singleton] at q; subst q; exact hy
    · by_cases hi : i < l.length
      · rw [List.getElem?_append_left hi] at hx
        rw [List.take_append_of_le_length (by omega)]
        exact h.up i x hx z hz
      · rw [List.getElem?_append_right (by omega)] at hx
        have hi0 : i - l.length = 0 := by
          cases e : i - l.length with
          | zero => rfl
          | succ k => rw [e] at hx; simp at hx
        rw [hi0] at hx
        cases hx
        have : i = l.length := by omega
        subst this
        rw [List.take_left']
        · exact hu z hz
        · rfl
theorem fold_mem {l r : List Str} {x : Str} : x ∈ r.foldl addN l ↔ x ∈ l ∨ x ∈ r := by
  induction r generalizing l with
  | nil => simp
  | cons y r ih => rw [List.foldl_cons, ih, addN_mem, List.mem_cons]; constructor <;> (intro h; rcases h with h | h <;> first | (rcases h with h | h <;> simp [h]) | simp [h])
theorem wnt_cons {cs : List Cl} (h : Tr cs) {c : Cl} (hc : c ∈ cs) : wnt cs c.n = wnt cs c.u ++ [c.n] := by
  unfold wnt
  rw [row_cons h c hc]
  simp
/-- any part of a row, uppermost first, is added -/
theorem Cls.part {cs : List Cl} (h : Tr cs) : ∀ (k : Nat) (s : Str), (rowOf cs s).length ≤ k → ∀ (a b l : List Str), wnt cs s = a ++ b → Cls cs l → Cls cs (a.foldl addN l) := by
  intro k
  induction k with
  | zero =>
    intro s hk a b l e hl
    have : rowOf cs s = [] := List.length_eq_zero_iff.mp (by omega)
    unfold wnt at e
    rw [this] at e
    simp at e
    rw [e.1]
    exact hl
  | succ k ih =>
    intro s hk a b l e hl
    by_cases hs : ∃ c ∈ cs, c.n = s
    · obtain ⟨c, hc, rfl⟩ := hs
      have hk' : (rowOf cs c.u).length ≤ k := by
        rw [row_cons h c hc] at hk
        simpa using hk
      rw [wnt_cons h hc] at e
      cases hb : b with
      | nil =>
        subst hb
        rw [List.append_nil] at e
        rw [← e, List.foldl_append]
        refine Cls.add (ih c.u hk' (wnt cs c.u) [] l (by simp) hl) (List.mem_map_of_mem hc) fun z hz => ?_
        rw [row_cons h c hc, List.tail_cons] at hz
        rw [fold_mem]
        right
        unfold wnt
        rw [List.mem_reverse]
        exact hz
      | cons y r =>
        have hn : b ≠ [] := by rw [hb]; simp
        refine ih c.u hk' a b.dropLast l ?_ hl
        have := congrArg List.dropLast e
        rw [List.dropLast_concat, List.dropLast_append_of_ne_nil hn] at this
        exact this
    · have hr : rowOf cs s = [] := row_none fun c hc e => hs ⟨c, hc, e⟩
      unfold wnt at e
      rw [hr] at e
      simp at e
      rw [e.1]
      exact hl
theorem Cls.len {cs : List Cl} {l : List Str} (h : Cls cs l) : l.length ≤ cs.length := by
  have := List.Nodup.length_le_of_subset h.nd (fun x hx => h.mem x hx)
  rwa [List.length_map] at this
/-! ### the rows of names -/
/-! ### are_classes -/
end H

set_option maxHeartbeats 1000000
namespace H
open DL PySem PySem.Spec PyProof.Rows L2
/-! ### entries of a house hold -/
section
variable {cs : List Cl} {S : Sto} {n : Nat}
end
/-! ### loops with an early end -/
/-! ### what is loaded -/
end H

set_option maxHeartbeats 1000000
namespace H
open DL PySem PySem.Spec PyProof.Rows L2
/-! ### sorted again -/
section
variable {cs : List Cl} {S : Sto} {n : Nat}
/-! ### what is asked of stocks, of what is loaded, of uses -/
/-! ### the two loops -/
end
end H

set_option maxHeartbeats 1000000
namespace H
open DL PySem PySem.Spec PyProof.Rows L2
section
variable {cs : List Cl} {cells : List Int}
end
end H

set_option maxHeartbeats 1000000
namespace H
open DL PySem PySem.Spec PyProof.Rows L2
/-! ### rows of words that are added, sorted -/
/-! ### == of rows of words -/
/-! ### when all is loaded -/
def wh (cs : List Cl) (us : List En) : List Str := us.flatMap fun e => wnt cs (nmE e)
/-! ### dict comprehensions, step by step -/
/-! ### slices of rows of words -/
end H

set_option maxHeartbeats 4000000
namespace H
open DL PySem PySem.Spec PyProof.Rows L2
/-! ### rows of handlers -/
structure Rw where
  b : Nat
  e : Nat
  n : Str
  g : Nat
def dR (r : Rw) : D := .tup [.int r.b, .int r.e, .str r.n, .int r.g]
section
variable {most steps : Nat} {cs : List Cl}
end
end H

set_option maxHeartbeats 4000000
namespace H
open DL PySem PySem.Spec PyProof.Rows L2
/-! ### drawn classes with handlers -/
end H

set_option maxHeartbeats 4000000
namespace H
open DL PySem PySem.Spec PyProof.Rows L2
/-! ### classes that have grown -/
def hd3 (m : Me) : Str × List Str × Str := (m.w, m.ins, m.out)
theorem StepOk.mono {nms nms' : List Str} {uf uf' um um' : Str → List Str} {size : Nat} {xs : List D} (h : StepOk nms uf um size xs) (h1 : ∀ n ∈ nms, n ∈ nms') (h2 : ∀ n f, f ∈ uf n → f ∈ uf' n) (h3 : ∀ n f, f ∈ um n → f ∈ um' n) : StepOk nms' uf' um' size xs := by
  cases h with
  | bare w h => exact .bare w h
  | push v a b => exact .push v a b
  | take v a b => exact .take v a b
  | keep v a b => exact .keep v a b
  | go v a b => exact .go v a b
  | iff v a b => exact .iff v a b
  | cls w h n hn hm => exact .cls w h n hn (h1 n hm)
  | fld w h n f hn hf hm => exact .fld w h n f hn hf (h2 n f hm)
  | call n m hn hf hm => exact .call n m hn hf (h3 n m hm)
theorem HandOk.mono {nms nms' : List Str} {size : Nat} {d : D} (h : HandOk nms size d) (h1 : ∀ n ∈ nms, n ∈ nms') : HandOk nms' size d := by
  cases h with
  | mk b e n g a0 a1 a2 a3 hn hm a4 a5 => exact .mk b e n g a0 a1 a2 a3 hn (h1 n hm) a4 a5
end H

set_option maxHeartbeats 4000000
namespace Hr
open DL PySem PySem.Spec PyProof.Rows L2 H
/-! ### the first row that catches -/
def r0 : Rw := ⟨0, 0, top, 0⟩
section
variable {S : Sto} {n : Nat} {cs : List Cl} {rs : List Rw} {step : Nat} {kind : Str}
/-! ### spots -/
end
/-! ### rows of a method, spots -/
def unR : D → Rw
  | .tup [.int b, .int e, .str n, .int g] => ⟨b.toNat, e.toNat, n, g.toNat⟩
  | _ => r0
def rsM (m : Me) : List Rw := m.hs.map unR
structure RowM (m : Me) : Prop where
  hd : m.hd = .tup ((rsM m).map dR)
  len : (rsM m).length ≤ 4
structure Hd (cs : List Cl) : Prop where
  hO : HouseOk cs
  row : ∀ c ∈ cs, ∀ m ∈ c.ms, RowM m
structure Sp where
  n : Str
  p : Nat
  s : Nat
section
variable {S : Sto} {n : Nat} {cs : List Cl} {kind : Str} {x : Sp}
end
end Hr

namespace K53
open DL PySem PySem.Spec PyProof.Rows L2 H
def to_ClassError : Str → Option Bool := fun d => if d = "NoHouse" then some true else if d = "BadName" then some true else if d = "BadWord" then some true else if d = "BadSlot" then some true else if d = "BadChoice" then some true else if d = "BadKinds" then some true else if d = "NotOwn" then some true else if d = "BadWords" then some true else if d = "BadNames" then some true else none
def tj__law_errorc_BadSlot : Str → Option Bool := fun d => if d = "NoHouse" then some false else if d = "BadName" then some false else if d = "BadWord" then some false else if d = "BadSlot" then some true else if d = "BadChoice" then some false else if d = "BadKinds" then some false else if d = "NotOwn" then some false else if d = "BadWords" then some false else if d = "BadNames" then some false else none
def tj__law_errorc_BadWord : Str → Option Bool := fun d => if d = "NoHouse" then some false else if d = "BadName" then some false else if d = "BadWord" then some true else if d = "BadSlot" then some false else if d = "BadChoice" then some false else if d = "BadKinds" then some false else if d = "NotOwn" then some false else if d = "BadWords" then some false else if d = "BadNames" then some false else none
def tj__law_errorc_BadName : Str → Option Bool := fun d => if d = "NoHouse" then some false else if d = "BadName" then some true else if d = "BadWord" then some false else if d = "BadSlot" then some false else if d = "BadChoice" then some false else if d = "BadKinds" then some false else if d = "NotOwn" then some false else if d = "BadWords" then some false else if d = "BadNames" then some false else none
def tj__law_errorc_NoHouse : Str → Option Bool := fun d => if d = "NoHouse" then some true else if d = "BadName" then some false else if d = "BadWord" then some false else if d = "BadSlot" then some false else if d = "BadChoice" then some false else if d = "BadKinds" then some false else if d = "NotOwn" then some false else if d = "BadWords" then some false else if d = "BadNames" then some false else none
def tj__law_errorc_NotOwn : Str → Option Bool := fun d => if d = "NoHouse" then some false else if d = "BadName" then some false else if d = "BadWord" then some false else if d = "BadSlot" then some false else if d = "BadChoice" then some false else if d = "BadKinds" then some false else if d = "NotOwn" then some true else if d = "BadWords" then some false else if d = "BadNames" then some false else none
def tj__law_errorc_BadKinds : Str → Option Bool := fun d => if d = "NoHouse" then some false else if d = "BadName" then some false else if d = "BadWord" then some false else if d = "BadSlot" then some false else if d = "BadChoice" then some false else if d = "BadKinds" then some true else if d = "NotOwn" then some false else if d = "BadWords" then some false else if d = "BadNames" then some false else none
def tj__law_errorc_BadChoice : Str → Option Bool := fun d => if d = "NoHouse" then some false else if d = "BadName" then some false else if d = "BadWord" then some false else if d = "BadSlot" then some false else if d = "BadChoice" then some true else if d = "BadKinds" then some false else if d = "NotOwn" then some false else if d = "BadWords" then some false else if d = "BadNames" then some false else none
def tj__law_errorc_BadNames : Str → Option Bool := fun d => if d = "NoHouse" then some false else if d = "BadName" then some false else if d = "BadWord" then some false else if d = "BadSlot" then some false else if d = "BadChoice" then some false else if d = "BadKinds" then some false else if d = "NotOwn" then some false else if d = "BadWords" then some false else if d = "BadNames" then some true else none
def tj__law_errorc_BadWords : Str → Option Bool := fun d => if d = "NoHouse" then some false else if d = "BadName" then some false else if d = "BadWord" then some false else if d = "BadSlot" then some false else if d = "BadChoice" then some false else if d = "BadKinds" then some false else if d = "NotOwn" then some false else if d = "BadWords" then some true else if d = "BadNames" then some false else none
def b_check_code : SF :=
  (sSeq (sSet 4 (e2 ixF (eVar 3) (eC (.int 3))))
  (sSeq (sIf (eOr (eNot (eCall f_is_list (aCons (eVar 4) (aCons (eC (.int 20)) aNil)))) (e2 eqE (eVar 4) (eTup aNil))) sNever sNext)
  (sSeq (sFor (iRange1 (aCons (eN (f1 lenF) (aCons (eVar 4) aNil)) aNil)) (gtName 5) (sIf (eNot (eCall f_is_step (aCons (eVar 0) (aCons (eVar 4) (aCons (eVar 5) aNil))))) sNever sNext))
  (sSeq (sIf (eNot (eCall f_is_list (aCons (e2 ixF (eVar 3) (eC (.int 4))) (aCons (eC (.int 4)) aNil)))) sNever sNext)
  (sFor (iEn (aCons (e2 ixF (eVar 3) (eC (.int 4))) aNil)) (gtTup (gtCons (gtName 6) (gtCons (gtName 7) gtNil))) (sIf (eNot (eCall f_is_handler (aCons (eVar 0) (aCons (eVar 4) (aCons (eVar 7) aNil))))) sNever sNext))))))
def f_check_code : FF := fnD 8 b_check_code

def b_check_classes : SF :=
  (sSeq (sIf (eOr (eNot (eCall f_is_list (aCons (eVar 0) (aCons (eC (.int 8)) aNil)))) (e2 eqE (eVar 0) (eTup aNil))) sNever sNext)
  (sSeq (sFor (iEn (aCons (eVar 0) aNil)) (gtTup (gtCons (gtName 1) (gtCons (gtName 2) gtNil))) (sIf (eNot (eCall f_is_class (aCons (eSl slF (eVar 0) (eC .non) (e1 ptF (eVar 1))) (aCons (eVar 2) aNil)))) sNever sNext))
  (sSeq (sSet 3 (eCall f_names_of (aCons (eVar 0) aNil)))
  (sSeq (sFor (iEn (aCons (eVar 0) aNil)) (gtTup (gtCons (gtName 1) (gtCons (gtName 2) gtNil))) (sSeq (sIf (eNot (eCall f_are_fields (aCons (eSl slF (eVar 0) (eC .non) (e1 ptF (eVar 1))) (aCons (eVar 3) (aCons (eVar 2) aNil))))) sNever sNext)
  (sSeq (sIf (eNot (eCall f_is_list (aCons (e2 ixF (eVar 2) (eC (.int 3))) (aCons (eC (.int 4)) aNil)))) sNever sNext)
  (sFor (iRange1 (aCons (eN (f1 lenF) (aCons (e2 ixF (eVar 2) (eC (.int 3))) aNil)) aNil)) (gtName 4) (sIf (eNot (eCall f_is_method (aCons (eSl slF (eVar 0) (eC .non) (e1 ptF (eVar 1))) (aCons (eVar 3) (aCons (eVar 2) (aCons (eVar 4) aNil)))))) sNever sNext)))))
  (sFor (iEn (aCons (eVar 0) aNil)) (gtTup (gtCons (gtName 1) (gtCons (gtName 2) gtNil))) (sFor (iEn (aCons (e2 ixF (eVar 2) (eC (.int 3))) aNil)) (gtTup (gtCons (gtName 4) (gtCons (gtName 5) gtNil))) (sExpr (eCall f_check_code (aCons (eVar 0) (aCons (eVar 1) (aCons (eVar 4) (aCons (eVar 5) aNil))))))))))))
def f_check_classes : FF := fnD 6 b_check_classes

def b_House___init__ : SF :=
  (sSeq (sExpr (eCall f_check_classes (aCons (eVar 1) aNil)))
  (sFldO [("House" : Str)] ("told" : Str) (eVar 0) (eVar 1)))
def f_House___init__ : FF := fnD 2 b_House___init__

def b__law_errorc (th : Th) : SF :=
  (sSeq (sSet 1 (eC (.str ("" : Str))))
  (sSeq (sTryT th (⟨to_ClassError, (some 2), fun x =>
  (sSeq (sSet 3 (eLst (aCons (eXis2 2 tj__law_errorc_NoHouse x) (aCons (eXis2 2 tj__law_errorc_BadName x) (aCons (eXis2 2 tj__law_errorc_BadWord x) (aCons (eXis2 2 tj__law_errorc_BadSlot x) aNil))))))
  (sSeq (sSet 3 (e2 addF (eVar 3) (eLst (aCons (eXis2 2 tj__law_errorc_BadChoice x) (aCons (eXis2 2 tj__law_errorc_BadKinds x) (aCons (eXis2 2 tj__law_errorc_NotOwn x) aNil))))))
  (sSeq (sSet 3 (e2 addF (eVar 3) (eLst (aCons (eXis2 2 tj__law_errorc_BadWords x) (aCons (eXis2 2 tj__law_errorc_BadNames x) aNil)))))
  (sSeq (sSet 4 (eLst (aCons (eC (.str ("house" : Str))) (aCons (eC (.str ("name" : Str))) (aCons (eC (.str ("word" : Str))) (aCons (eC (.str ("slot" : Str))) (aCons (eC (.str ("choice" : Str))) (aCons (eC (.str ("kinds" : Str))) (aCons (eC (.str ("own" : Str))) (aCons (eC (.str ("words" : Str))) (aCons (eC (.str ("names" : Str))) aNil)))))))))))
  (sSeq (sSet 1 (eIf (e2 eqF (eCnt (eVar 3) (eC (.bl true))) (eC (.int 1))) (e2 ixF (eVar 4) (eIdx (eVar 3) (eC (.bl true)))) (eC (.str ("other" : Str)))))
  (sIf (e2 eqF (eVar 1) (eC (.str ("choice" : Str)))) (sSet 1 (eTup (aCons (eVar 1) (aCons (eXf 2 [("BadChoice" : Str)] ("index" : Str) x) aNil)))) sNext))))))⟩ :: []))
  (sRet (eVar 1))))
def f__law_errorc : Th → Th := fnT 5 b__law_errorc

def b_need_house : SF :=
  (sIf (eNot (e1 (isF tb_House to_House) (eVar 0))) (sRaise0 ("NoHouse" : Str)) sNext)
def f_need_house : FF := fnD 1 b_need_house

def b_need_choice : SF :=
  (sSeq (sExpr (eCall f_need_house (aCons (eVar 0) aNil)))
  (sSeq (sIf (eOr (eNot (eCall f_is_list (aCons (eVar 1) (aCons (eC (.int 8)) aNil)))) (e2 eqE (eVar 1) (eTup aNil))) (sRaise ("BadChoice" : Str) [("index" : Str)] (aCons (eC .non) aNil)) sNext)
  (sFor (iEn (aCons (eVar 1) aNil)) (gtTup (gtCons (gtName 2) (gtCons (gtName 3) gtNil))) (sIf (eOr (eNot (eCall f_is_option (aCons (eVar 0) (aCons (eVar 3) aNil)))) (e2 inF (eVar 3) (eSl slF (eVar 1) (eC .non) (e1 ptF (eVar 2))))) (sRaise ("BadChoice" : Str) [("index" : Str)] (aCons (eVar 2) aNil)) sNext))))
def f_need_choice : FF := fnD 4 b_need_choice

def b_need_kinds : SF :=
  (sSeq (sSet 2 (eLst (aStar (eCall f_names_of (aCons (eFld [("House" : Str)] ("told" : Str) (eVar 0)) aNil)) (aCons (eC (.str ("none" : Str))) aNil))))
  (sIf (eOr (eNot (eCall f_is_list (aCons (eVar 1) (aCons (eC (.int 3)) aNil)))) (eNot (eN (f1 allF) (aCons (eLc [3] (iSeq (eVar 1)) (gtName 3) eYes (eCall f_is_kind_in (aCons (eVar 2) (aCons (eVar 3) aNil)))) aNil)))) (sRaise0 ("BadKinds" : Str)) sNext))
def f_need_kinds : FF := fnD 4 b_need_kinds

def b_takers : SF :=
  (sSeq (sExpr (eCall f_need_choice (aCons (eVar 0) (aCons (eVar 1) aNil))))
  (sSeq (sExpr (eCall f_need_kinds (aCons (eVar 0) (aCons (eVar 2) aNil))))
  (sRet (eCall f_taking (aCons (eVar 0) (aCons (eVar 1) (aCons (eVar 2) aNil)))))))
def f_takers : FF := fnD 3 b_takers

def b_need_name : SF :=
  (sIf (eOr (eNot (e1 (isF tb_str to_str) (eVar 1))) (e2 notInF (eVar 1) (eCall f_names_of (aCons (eFld [("House" : Str)] ("told" : Str) (eVar 0)) aNil)))) (sRaise0 ("BadName" : Str)) sNext)
def f_need_name : FF := fnD 2 b_need_name

def b_need_word : SF :=
  (sIf (eNot (eCall f_is_word (aCons (eVar 0) aNil))) (sRaise0 ("BadWord" : Str)) sNext)
def f_need_word : FF := fnD 1 b_need_word

def b_need_asked : SF :=
  (sSeq (sExpr (eCall f_need_house (aCons (eVar 0) aNil)))
  (sSeq (sExpr (eCall f_need_name (aCons (eVar 0) (aCons (eVar 1) aNil))))
  (sExpr (eCall f_need_word (aCons (eVar 2) aNil)))))
def f_need_asked : FF := fnD 3 b_need_asked

def b_line_of : SF :=
  (sRet (eLc [3] (iSeq (eCall f_row_of (aCons (eFld [("House" : Str)] ("told" : Str) (eVar 0)) (aCons (eVar 1) aNil)))) (gtName 3) (e2 inF (eVar 2) (eLc [4] (iSeq (e2 ixF (eVar 3) (eC (.int 3)))) (gtName 4) eYes (e2 ixF (eVar 4) (eC (.int 0))))) (e2 ixF (eVar 3) (eC (.int 0)))))
def f_line_of : FF := fnD 5 b_line_of

def b_reached_from : SF :=
  (sSeq (sExpr (eCall f_need_asked (aCons (eVar 0) (aCons (eVar 1) (aCons (eVar 2) aNil)))))
  (sSeq (sIf (eOr (e2 neF (eSl slF (eCall f_line_of (aCons (eVar 0) (aCons (eVar 1) (aCons (eVar 2) aNil)))) (eC .non) (e1 ptF (eC (.int 1)))) (eLst (aCons (eVar 1) aNil))) (e2 eqF (eVar 1) (eC (.str ("top" : Str))))) (sRaise0 ("NotOwn" : Str)) sNext)
  (sRet (eN (f1 tupF) (aCons (eLc [3] (iSeq (eFld [("House" : Str)] ("told" : Str) (eVar 0))) (gtName 3) (e2 eqF (eSl slF (eCall f_line_of (aCons (eVar 0) (aCons (e2 ixF (eVar 3) (eC (.int 0))) (aCons (eVar 2) aNil)))) (eC .non) (e1 ptF (eC (.int 1)))) (eLst (aCons (eVar 1) aNil))) (e2 ixF (eVar 3) (eC (.int 0)))) aNil)))))
def f_reached_from : FF := fnD 4 b_reached_from

def b_method_row : SF :=
  (sSeq (sExpr (eCall f_need_house (aCons (eVar 0) aNil)))
  (sSeq (sExpr (eCall f_need_name (aCons (eVar 0) (aCons (eVar 1) aNil))))
  (sRet (eCall f_row_made (aCons (eVar 0) (aCons (eVar 1) aNil))))))
def f_method_row : FF := fnD 2 b_method_row

def b_words_seen : SF :=
  (sRet (eDc2 [3, 2] [2] (iSeq (eCall f_row_of (aCons (eFld [("House" : Str)] ("told" : Str) (eVar 0)) (aCons (eVar 1) aNil)))) (gtName 3) eYes (iSeq (e2 ixF (eVar 3) (eC (.int 3)))) (gtName 2) eYes (e2 ixF (eVar 2) (eC (.int 0))) (eC (.bl true))))
def f_words_seen : FF := fnD 4 b_words_seen

def b_shared : SF :=
  (sSeq (sSet 2 (eLc [3] (iSeq (eVar 1)) (gtName 3) eYes (eCall f_words_seen (aCons (eVar 0) (aCons (eVar 3) aNil)))))
  (sRet (eN (f1 tupF) (aCons (eN (f1 sortK) (aCons (eLcKd 2 (0 : Int) [4] (gtName 4) (eN (f1 allF) (aCons (eLc [5] (iSeq (eVar 2)) (gtName 5) eYes (e2 inF (eVar 4) (eVar 5))) aNil)) (eVar 4)) aNil)) aNil))))
def f_shared : FF := fnD 6 b_shared

def b_seen_by_all : SF :=
  (sSeq (sExpr (eCall f_need_house (aCons (eVar 0) aNil)))
  (sSeq (sIf (eOr (eNot (e1 (isF tb_tuple to_tuple) (eVar 1))) (eOr (e2 eqE (eVar 1) (eTup aNil)) (eNot (eN (f1 allF) (aCons (eLc [2] (iSeq (eVar 1)) (gtName 2) eYes (e1 (isF tb_str to_str) (eVar 2))) aNil))))) (sRaise0 ("BadNames" : Str)) sNext)
  (sSeq (sIf (eOr (eNot (eN (f1 allF) (aCons (eLc [2] (iSeq (eVar 1)) (gtName 2) eYes (e2 inF (eVar 2) (eCall f_names_of (aCons (eFld [("House" : Str)] ("told" : Str) (eVar 0)) aNil)))) aNil))) (e2 neF (e1 lenSetA (eVar 1)) (eN (f1 lenF) (aCons (eVar 1) aNil)))) (sRaise0 ("BadNames" : Str)) sNext)
  (sRet (eCall f_shared (aCons (eVar 0) (aCons (eVar 1) aNil)))))))
def f_seen_by_all : FF := fnD 3 b_seen_by_all

def b_targets_of : SF :=
  (sSeq (sSet 3 eNewK)
  (sSeq (sFor (iSeq (eCall f_names_of (aCons (eFld [("House" : Str)] ("told" : Str) (eVar 0)) aNil))) (gtName 4) (sSeq (sSet 5 (eIf (e2 inF (eVar 1) (eCall f_up_from (aCons (eVar 0) (aCons (eVar 4) aNil)))) (eCall f_line_of (aCons (eVar 0) (aCons (eVar 4) (aCons (eVar 2) aNil)))) (eLst aNil)))
  (sIf (e2 neF (eVar 5) (eLst aNil)) (sPut 3 (e2 ixF (eVar 5) (eC (.int 0))) (eC (.bl true))) sNext)))
  (sRet (eN (f1 tupF) (aCons (eLc [6] (iSeq (eFld [("House" : Str)] ("told" : Str) (eVar 0))) (gtName 6) (e2 inF (e2 ixF (eVar 6) (eC (.int 0))) (eVar 3)) (e2 ixF (eVar 6) (eC (.int 0)))) aNil)))))
def f_targets_of : FF := fnD 7 b_targets_of

def b_widest_call : SF :=
  (sSeq (sExpr (eCall f_need_house (aCons (eVar 0) aNil)))
  (sSeq (sSet 1 (eN (f1 sortK) (aCons (eDc2 [7, 6] [6] (iSeq (eFld [("House" : Str)] ("told" : Str) (eVar 0))) (gtName 7) eYes (iSeq (e2 ixF (eVar 7) (eC (.int 3)))) (gtName 6) eYes (e2 ixF (eVar 6) (eC (.int 0))) (eC (.bl true))) aNil)))
  (sSeq (sSet 2 (eC .non))
  (sSeq (sFor (iSeq (eSl slF (eCall f_names_of (aCons (eFld [("House" : Str)] ("told" : Str) (eVar 0)) aNil)) (e1 ptF (eC (.int 1))) (eC .non))) (gtName 3) (sFor (iSeq (eVar 1)) (gtName 4) (sSeq (sSet 5 (eN (f1 lenF) (aCons (eCall f_targets_of (aCons (eVar 0) (aCons (eVar 3) (aCons (eVar 4) aNil)))) aNil)))
  (sIf (eAnd (e2 (iLt fun i j => decide (j < i)) (eVar 5) (eC (.int 0))) (eOr (eIsN (eVar 2)) (e2 (iLt fun i j => decide (j < i)) (eVar 5) (e2 ixF (eVar 2) (eC (.int 0)))))) (sSet 2 (eTup (aCons (eVar 5) (aCons (eVar 3) (aCons (eVar 4) aNil))))) sNext))))
  (sRet (eVar 2))))))
def f_widest_call : FF := fnD 8 b_widest_call

def b_every_word : SF :=
  (sRet (eN (f1 tupF) (aCons (eN (f1 sortK) (aCons (eDc2 [2, 1] [1] (iSeq (eFld [("House" : Str)] ("told" : Str) (eVar 0))) (gtName 2) eYes (iSeq (e2 ixF (eVar 2) (eC (.int 3)))) (gtName 1) eYes (e2 ixF (eVar 1) (eC (.int 0))) (eC (.bl true))) aNil)) aNil)))
def f_every_word : FF := fnD 3 b_every_word

def b_closed_lots : SF :=
  (sSeq (sExpr (eCall f_need_house (aCons (eVar 0) aNil)))
  (sSeq (sSet 1 (eDispT (eCall f_every_word (aCons (eVar 0) aNil)) (eC (.bl true))))
  (sSeq (sFor (iSeq (eCall f_names_of (aCons (eFld [("House" : Str)] ("told" : Str) (eVar 0)) aNil))) (gtName 2) (sSeq (sSet 3 (eCall f_words_seen (aCons (eVar 0) (aCons (eVar 2) aNil))))
  (sFor (iSeq (eN (f1 lstT) (aCons (eVar 1) aNil))) (gtName 4) (sPut 1 (eN (f1 tupT) (aCons (eLc [6] (iSeq (eVar 4)) (gtName 6) (e2 inF (eVar 6) (eVar 3)) (eVar 6)) aNil)) (eC (.bl true))))))
  (sRet (eLc [5, 4] (iSeq (eN (f1 sortK) (aCons (eLcD 1 [4] (gtName 4) eYes (eTup (aCons (eN (f1 lenF) (aCons (eVar 4) aNil)) (aCons (eVar 4) aNil)))) aNil))) (gtTup (gtCons (gtName 5) (gtCons (gtName 4) gtNil))) eYes (eVar 4))))))
def f_closed_lots : FF := fnD 7 b_closed_lots

def b_shows_choice : SF :=
  (sSeq (sExpr (eCall f_need_choice (aCons (eVar 0) (aCons (eVar 1) aNil))))
  (sSeq (sExpr (eCall f_need_kinds (aCons (eVar 0) (aCons (eVar 2) aNil))))
  (sSeq (sIf (eOr (eNot (e1 (isF tb_tuple to_tuple) (eVar 3))) (eOr (e2 eqE (eVar 3) (eTup aNil)) (eNot (e1 (isF tb_str to_str) (e2 ixF (eVar 3) (eC (.int 0))))))) (sRet (eC (.bl false))) sNext)
  (sSeq (sSet 4 (eCall f_taking (aCons (eVar 0) (aCons (eVar 1) (aCons (eVar 2) aNil)))))
  (sSeq (sIf (e2 eqF (e2 ixF (eVar 3) (eC (.int 0))) (eC (.str ("none" : Str)))) (sRet (eAnd (e2 eqF (eN (f1 lenF) (aCons (eVar 3) aNil)) (eC (.int 1))) (e2 eqF (eVar 4) (eLst aNil)))) sNext)
  (sSeq (sIf (eNot (eN (f1 allF) (aCons (eLc [5] (iSeq (eSl slF (eVar 3) (e1 ptF (eC (.int 1))) (eC .non))) (gtName 5) eYes (eAnd (e1 (isF tb_int to_int) (eVar 5)) (eAnd (eNot (e1 (isF tb_bool to_bool) (eVar 5))) (e2 inF (eVar 5) (eVar 4))))) aNil))) (sRet (eC (.bl false))) sNext)
  (sSeq (sIf (e2 eqF (e2 ixF (eVar 3) (eC (.int 0))) (eC (.str ("one" : Str)))) (sRet (eAnd (e2 eqF (eN (f1 lenF) (aCons (eVar 3) aNil)) (eC (.int 2))) (e2 eqF (eCall f_best_of (aCons (eVar 0) (aCons (eVar 1) (aCons (eVar 4) aNil)))) (e2 ixF (eVar 3) (eC (.int 1)))))) sNext)
  (sRet (eAnd (e2 eqF (e2 ixF (eVar 3) (eC (.int 0))) (eC (.str ("two" : Str)))) (eAnd (e2 eqF (eN (f1 lenF) (aCons (eVar 3) aNil)) (eC (.int 3))) (eAnd (e2 (iLt fun i j => decide (i < j)) (e2 ixF (eVar 3) (eC (.int 1))) (e2 ixF (eVar 3) (eC (.int 2)))) (eCall f_is_double (aCons (eVar 0) (aCons (eVar 1) (aCons (eVar 4) (aCons (eSl slF (eVar 3) (e1 ptF (eC (.int 1))) (eC .non)) aNil))))))))))))))))
def f_shows_choice : FF := fnD 6 b_shows_choice

def b_first_double : SF :=
  (sSeq (sExpr (eCall f_need_choice (aCons (eVar 0) (aCons (eVar 1) aNil))))
  (sSeq (sPar [2, 3] (aCons (eN (f1 sortK) (aCons (eLst (aStar (eCall f_names_of (aCons (eFld [("House" : Str)] ("told" : Str) (eVar 0)) aNil)) (aCons (eC (.str ("num" : Str))) (aCons (eC (.str ("none" : Str))) aNil)))) aNil)) (aCons (eLst (aCons (eTup aNil) aNil)) aNil)))
  (sSeq (sFor (iRange1 (aCons (e2 addF (eC (.int 3)) (eC (.int 1))) aNil)) (gtName 4) (sSeq (sFor (iSeq (eVar 3)) (gtName 5) (sIf (e2 eqF (e2 ixF (eCall f_paper_of (aCons (eVar 0) (aCons (eVar 1) (aCons (eVar 5) aNil)))) (eC (.int 0))) (eC (.str ("two" : Str)))) (sRet (eVar 5)) sNext))
  (sSet 3 (eLc2 [5, 6] [6] (iSeq (eVar 3)) (gtName 5) eYes (iSeq (eVar 2)) (gtName 6) eYes (eTup (aStar (eVar 5) (aCons (eVar 6) aNil)))))))
  (sRet (eC .non)))))
def f_first_double : FF := fnD 7 b_first_double

def b_slot_of : SF :=
  (sSeq (sExpr (eCall f_need_asked (aCons (eVar 0) (aCons (eVar 1) (aCons (eVar 2) aNil)))))
  (sSeq (sSet 3 (eLc [4, 5] (iSeq (eCall f_row_made (aCons (eVar 0) (aCons (eVar 1) aNil)))) (gtTup (gtCons (gtName 4) (gtCons (gtName 5) gtNil))) eYes (eVar 4)))
  (sRet (eIf (e2 inF (eVar 2) (eVar 3)) (eIdx (eVar 3) (eVar 2)) (eC .non)))))
def f_slot_of : FF := fnD 6 b_slot_of

def b_at_slot : SF :=
  (sSeq (sExpr (eCall f_need_house (aCons (eVar 0) aNil)))
  (sSeq (sExpr (eCall f_need_name (aCons (eVar 0) (aCons (eVar 1) aNil))))
  (sSeq (sSet 3 (eCall f_row_made (aCons (eVar 0) (aCons (eVar 1) aNil))))
  (sSeq (sIf (eNot (eCall f_is_in (aCons (eVar 2) (aCons (eC (.int 0)) (aCons (e2 subF (eN (f1 lenF) (aCons (eVar 3) aNil)) (eC (.int 1))) aNil))))) (sRaise0 ("BadSlot" : Str)) sNext)
  (sSeq (sUnp (gtTup (gtCons (gtName 4) (gtCons (gtName 5) gtNil))) (e2 ixF (eVar 3) (eVar 2)))
  (sRet (eTup (aCons (eVar 5) (aCons (eIdx (eLc [6] (iSeq (e2 ixF (e2 ixF (eCall f_row_of (aCons (eFld [("House" : Str)] ("told" : Str) (eVar 0)) (aCons (eVar 5) aNil))) (eC (.int 0))) (eC (.int 3)))) (gtName 6) eYes (e2 ixF (eVar 6) (eC (.int 0)))) (eVar 4)) aNil)))))))))
def f_at_slot : FF := fnD 7 b_at_slot

def b_method_line : SF :=
  (sSeq (sExpr (eCall f_need_asked (aCons (eVar 0) (aCons (eVar 1) (aCons (eVar 2) aNil)))))
  (sRet (eN (f1 tupF) (aCons (eCall f_line_of (aCons (eVar 0) (aCons (eVar 1) (aCons (eVar 2) aNil)))) aNil))))
def f_method_line : FF := fnD 3 b_method_line

def b_upper_method : SF :=
  (sSeq (sExpr (eCall f_need_asked (aCons (eVar 0) (aCons (eVar 1) (aCons (eVar 2) aNil)))))
  (sSeq (sFor (iSeq (eSl slF (eCall f_row_of (aCons (eFld [("House" : Str)] ("told" : Str) (eVar 0)) (aCons (eVar 1) aNil))) (e1 ptF (eC (.int 1))) (eC .non))) (gtName 3) (sFor (iEn (aCons (e2 ixF (eVar 3) (eC (.int 3))) aNil)) (gtTup (gtCons (gtName 4) (gtCons (gtName 5) gtNil))) (sIf (e2 eqF (e2 ixF (eVar 5) (eC (.int 0))) (eVar 2)) (sRet (eTup (aCons (e2 ixF (eVar 3) (eC (.int 0))) (aCons (eVar 4) aNil)))) sNext)))
  (sRet (eC .non))))
def f_upper_method : FF := fnD 6 b_upper_method

def b_targets : SF :=
  (sSeq (sExpr (eCall f_need_asked (aCons (eVar 0) (aCons (eVar 1) (aCons (eVar 2) aNil)))))
  (sRet (eCall f_targets_of (aCons (eVar 0) (aCons (eVar 1) (aCons (eVar 2) aNil))))))
def f_targets : FF := fnD 3 b_targets

def b_nearest_taker : SF :=
  (sSeq (sExpr (eCall f_need_choice (aCons (eVar 0) (aCons (eVar 1) aNil))))
  (sSeq (sExpr (eCall f_need_kinds (aCons (eVar 0) (aCons (eVar 2) aNil))))
  (sRet (eCall f_best_of (aCons (eVar 0) (aCons (eVar 1) (aCons (eCall f_taking (aCons (eVar 0) (aCons (eVar 1) (aCons (eVar 2) aNil)))) aNil)))))))
def f_nearest_taker : FF := fnD 3 b_nearest_taker

def b_choice_paper : SF :=
  (sSeq (sExpr (eCall f_need_choice (aCons (eVar 0) (aCons (eVar 1) aNil))))
  (sSeq (sExpr (eCall f_need_kinds (aCons (eVar 0) (aCons (eVar 2) aNil))))
  (sRet (eCall f_paper_of (aCons (eVar 0) (aCons (eVar 1) (aCons (eVar 2) aNil)))))))
def f_choice_paper : FF := fnD 3 b_choice_paper

def b_need_words : SF :=
  (sSeq (sIf (eOr (eNot (e1 (isF tb_tuple to_tuple) (eVar 0))) (eNot (eN (f1 allF) (aCons (eLc [1] (iSeq (eVar 0)) (gtName 1) eYes (eCall f_is_word (aCons (eVar 1) aNil))) aNil)))) (sRaise0 ("BadWords" : Str)) sNext)
  (sIf (e2 neF (eN (f1 lstF) (aCons (eVar 0) aNil)) (e1 srtSetK (eVar 0))) (sRaise0 ("BadWords" : Str)) sNext))
def f_need_words : FF := fnD 2 b_need_words

def b_having : SF :=
  (sSeq (sSet 2 (eLst aNil))
  (sSeq (sFor (iSeq (eCall f_names_of (aCons (eFld [("House" : Str)] ("told" : Str) (eVar 0)) aNil))) (gtName 3) (sSeq (sSet 4 (eCall f_words_seen (aCons (eVar 0) (aCons (eVar 3) aNil))))
  (sIf (eN (f1 allF) (aCons (eLc [5] (iSeq (eVar 1)) (gtName 5) eYes (e2 inF (eVar 5) (eVar 4))) aNil)) (sApp 2 (eVar 3)) sNext)))
  (sRet (eN (f1 tupF) (aCons (eVar 2) aNil)))))
def f_having : FF := fnD 6 b_having

def b_who_has : SF :=
  (sSeq (sExpr (eCall f_need_house (aCons (eVar 0) aNil)))
  (sSeq (sExpr (eCall f_need_words (aCons (eVar 1) aNil)))
  (sRet (eCall f_having (aCons (eVar 0) (aCons (eVar 1) aNil))))))
def f_who_has : FF := fnD 2 b_who_has

def b_first_who : SF :=
  (sSeq (sExpr (eCall f_need_house (aCons (eVar 0) aNil)))
  (sSeq (sExpr (eCall f_need_words (aCons (eVar 1) aNil)))
  (sSeq (sSet 2 (eCall f_having (aCons (eVar 0) (aCons (eVar 1) aNil))))
  (sRet (eN (f1 tupF) (aCons (eLc [3] (iSeq (eVar 2)) (gtName 3) (eOr (e2 eqF (eVar 3) (eC (.str ("top" : Str)))) (e2 notInF (e2 ixF (e2 ixF (eCall f_row_of (aCons (eFld [("House" : Str)] ("told" : Str) (eVar 0)) (aCons (eVar 3) aNil))) (eC (.int 0))) (eC (.int 1))) (eVar 2))) (eVar 3)) aNil))))))
def f_first_who : FF := fnD 4 b_first_who

def b_closing : SF :=
  (sSeq (sSet 2 (eCall f_having (aCons (eVar 0) (aCons (eVar 1) aNil))))
  (sRet (eIf (e2 neF (eVar 2) (eTup aNil)) (eCall f_shared (aCons (eVar 0) (aCons (eVar 2) aNil))) (eCall f_every_word (aCons (eVar 0) aNil)))))
def f_closing : FF := fnD 3 b_closing

def b_closed_words : SF :=
  (sSeq (sExpr (eCall f_need_house (aCons (eVar 0) aNil)))
  (sSeq (sExpr (eCall f_need_words (aCons (eVar 1) aNil)))
  (sRet (eCall f_closing (aCons (eVar 0) (aCons (eVar 1) aNil))))))
def f_closed_words : FF := fnD 2 b_closed_words

def b__law_ask : SF :=
  (sSeq (sIf (e2 eqF (eVar 0) (eC (.int 0))) (sRet (eCall f_method_row (aCons (eVar 1) (aCons (e2 ixF (eVar 2) (eC (.int 0))) aNil)))) sNext)
  (sSeq (sIf (e2 (iLt fun i j => decide (i < j)) (eVar 0) (eC (.int 3))) (sRet (eCallV [(("slot_of" : Str), f_slot_of), (("at_slot" : Str), f_at_slot)] (e2 ixF (eLst (aCons (eC (.cls ("slot_of" : Str))) (aCons (eC (.cls ("at_slot" : Str))) aNil))) (e2 subF (eVar 0) (eC (.int 1)))) (aCons (eVar 1) (aCons (e2 ixF (eVar 2) (eC (.int 0))) (aCons (e2 ixF (eVar 2) (eVar 0)) aNil))))) sNext)
  (sSeq (sIf (e2 (iLt fun i j => decide (i < j)) (eVar 0) (eC (.int 7))) (sRet (eCallV [(("method_line" : Str), f_method_line), (("upper_method" : Str), f_upper_method), (("targets" : Str), f_targets), (("reached_from" : Str), f_reached_from)] (e2 ixF (eLst (aCons (eC (.cls ("method_line" : Str))) (aCons (eC (.cls ("upper_method" : Str))) (aCons (eC (.cls ("targets" : Str))) (aCons (eC (.cls ("reached_from" : Str))) aNil))))) (e2 subF (eVar 0) (eC (.int 3)))) (aCons (eVar 1) (aCons (e2 ixF (eVar 2) (eC (.int 0))) (aCons (e2 ixF (eVar 2) (eC (.int 1))) aNil))))) sNext)
  (sSeq (sIf (e2 (iLt fun i j => decide (i < j)) (eVar 0) (eC (.int 10))) (sRet (eCallV [(("takers" : Str), f_takers), (("nearest_taker" : Str), f_nearest_taker), (("choice_paper" : Str), f_choice_paper)] (e2 ixF (eLst (aCons (eC (.cls ("takers" : Str))) (aCons (eC (.cls ("nearest_taker" : Str))) (aCons (eC (.cls ("choice_paper" : Str))) aNil)))) (e2 subF (eVar 0) (eC (.int 7)))) (aCons (eVar 1) (aCons (e2 ixF (eVar 2) (eC (.int 3))) (aCons (e2 ixF (eVar 2) (eC (.int 4))) aNil))))) sNext)
  (sSeq (sIf (e2 (iLt fun i j => decide (i < j)) (eVar 0) (eC (.int 12))) (sRet (eIf (e2 eqF (eVar 0) (eC (.int 10))) (eCall f_shows_choice (aCons (eVar 1) (aCons (e2 ixF (eVar 2) (eC (.int 3))) (aCons (e2 ixF (eVar 2) (eC (.int 4))) (aCons (eC .non) aNil))))) (eCall f_first_double (aCons (eVar 1) (aCons (e2 ixF (eVar 2) (eC (.int 3))) aNil))))) sNext)
  (sSeq (sIf (e2 (iLt fun i j => decide (i < j)) (eVar 0) (eC (.int 15))) (sRet (eCallV [(("who_has" : Str), f_who_has), (("first_who" : Str), f_first_who), (("closed_words" : Str), f_closed_words)] (e2 ixF (eLst (aCons (eC (.cls ("who_has" : Str))) (aCons (eC (.cls ("first_who" : Str))) (aCons (eC (.cls ("closed_words" : Str))) aNil)))) (e2 subF (eVar 0) (eC (.int 12)))) (aCons (eVar 1) (aCons (e2 ixF (eVar 2) (eC (.int 5))) aNil)))) sNext)
  (sSeq (sIf (e2 eqF (eVar 0) (eC (.int 15))) (sRet (eCall f_seen_by_all (aCons (eVar 1) (aCons (e2 ixF (eVar 2) (eC (.int 6))) aNil)))) sNext)
  (sRet (eIf (e2 eqF (eVar 0) (eC (.int 16))) (eCall f_widest_call (aCons (eVar 1) aNil)) (eCall f_closed_lots (aCons (eVar 1) aNil)))))))))))
def f__law_ask : FF := fnD 3 b__law_ask

def b_law : SF :=
  (sSeq (sNewO 1 (aCons (eVar 0) (aCons (eC (.int 0)) (aCons (eC (.int 2953)) (aCons (eC (.int 0)) aNil)))))
  (sSeq (sSet 2 (eTup (aCons (eC (.str ("ma" : Str))) (aCons (eTup aNil) (aCons (eC (.str ("num" : Str))) (aCons (eTup (aCons (eTup (aCons (eC (.str ("push" : Str))) (aCons (eC (.int 1)) aNil))) (aCons (eTup (aCons (eC (.str ("give" : Str))) aNil)) aNil))) (aCons (eTup aNil) aNil)))))))
  (sSeq (sSet 3 (eTup (aCons (eTup (aCons (eC (.str ("egg" : Str))) (aCons (eC (.str ("top" : Str))) (aCons (eTup aNil) (aCons (eTup (aCons (eVar 2) aNil)) aNil))))) (aCons (eTup (aCons (eC (.str ("box" : Str))) (aCons (eC (.str ("egg" : Str))) (aCons (eTup aNil) (aCons (eTup (aCons (eVar 2) aNil)) aNil))))) aNil))))
  (sSeq (sSet 4 (eMake ("House" : Str) f_House___init__ (aCons (eVar 3) aNil)))
  (sSeq (sSet 5 (eLc [22] (iSeq (eLst (aCons (eC .non) (aCons (eC (.str ("cat" : Str))) (aCons (eC (.str ("num" : Str))) (aCons (eC (.str ("none" : Str))) (aCons (eC (.int 0)) (aCons (eLst aNil) (aCons (eTup (aCons (eC (.str ("egg" : Str))) aNil)) (aCons eNewK (aCons (eC (.str ("Top" : Str))) aNil))))))))))) (gtName 22) eYes (eTup (aCons (eVar 22) (aCons (eC (.str ("name" : Str))) aNil)))))
  (sSeq (sSet 6 (eLc [22] (iSeq (eLst (aCons (eC .non) (aCons (eC (.str ("" : Str))) (aCons (eC (.str ("Ma" : Str))) (aCons (eC (.str ("abcdefg" : Str))) (aCons (eC (.str ("a1" : Str))) (aCons (eC (.int 0)) (aCons (eLst aNil) (aCons (eTup (aCons (eC (.str ("ma" : Str))) aNil)) (aCons (eC (.str ("m a" : Str))) aNil))))))))))) (gtName 22) eYes (eTup (aCons (eVar 22) (aCons (eC (.str ("word" : Str))) aNil)))))
  (sSeq (sSet 7 (eLc [22] (iSeq (eLst (aCons (eC .non) (aCons (e1 negF (eC (.int 1))) (aCons (eC (.int 1)) (aCons (eC (.bl true)) (aCons (eC (.str ("0" : Str))) (aCons (eLst aNil) (aCons (eTup (aCons (eC (.int 0)) aNil)) aNil))))))))) (gtName 22) eYes (eTup (aCons (eVar 22) (aCons (eC (.str ("slot" : Str))) aNil)))))
  (sSeq (sSet 8 (eLst (aCons (eTup (aCons (eC .non) (aCons (eTup (aCons (eC (.str ("choice" : Str))) (aCons (eC .non) aNil))) aNil))) (aCons (eTup (aCons (eTup aNil) (aCons (eTup (aCons (eC (.str ("choice" : Str))) (aCons (eC .non) aNil))) aNil))) (aCons (eTup (aCons (eLst (aCons (eTup (aCons (eC (.str ("egg" : Str))) aNil)) aNil)) (aCons (eTup (aCons (eC (.str ("choice" : Str))) (aCons (eC .non) aNil))) aNil))) aNil)))))
  (sSeq (sSet 8 (e2 catF (eVar 8) (eLst (aCons (eTup (aCons (eTup (aCons (eTup (aCons (eC (.str ("egg" : Str))) aNil)) (aCons (eTup (aCons (eC (.str ("cat" : Str))) aNil)) aNil))) (aCons (eTup (aCons (eC (.str ("choice" : Str))) (aCons (eC (.int 1)) aNil))) aNil))) (aCons (eTup (aCons (eTup (aCons (eTup (aCons (eC (.str ("egg" : Str))) aNil)) (aCons (eTup (aCons (eC (.str ("egg" : Str))) aNil)) aNil))) (aCons (eTup (aCons (eC (.str ("choice" : Str))) (aCons (eC (.int 1)) aNil))) aNil))) aNil)))))
  (sSeq (sSet 8 (e2 catF (eVar 8) (eLst (aCons (eTup (aCons (eTup (aCons (eC .non) aNil)) (aCons (eTup (aCons (eC (.str ("choice" : Str))) (aCons (eC (.int 0)) aNil))) aNil))) (aCons (eTup (aCons eNewK (aCons (eTup (aCons (eC (.str ("choice" : Str))) (aCons (eC .non) aNil))) aNil))) aNil)))))
  (sSeq (sSet 8 (e2 catF (eVar 8) (eLst (aCons (eTup (aCons (eTup (aCons (e2 repTF (eTup (aCons (eC (.str ("num" : Str))) aNil)) (eC (.int 4))) aNil)) (aCons (eTup (aCons (eC (.str ("choice" : Str))) (aCons (eC (.int 0)) aNil))) aNil))) (aCons (eTup (aCons (eTup (aCons (eTup (aCons (eC (.str ("egg" : Str))) aNil)) (aCons (eTup (aCons (eC (.str ("none" : Str))) aNil)) (aCons (eC .non) aNil)))) (aCons (eTup (aCons (eC (.str ("choice" : Str))) (aCons (eC (.int 1)) aNil))) aNil))) aNil)))))
  (sSeq (sSet 8 (e2 catF (eVar 8) (eLst (aCons (eTup (aCons (eTup (aCons (eTup aNil) (aCons (eLst (aCons (eC (.str ("egg" : Str))) aNil)) aNil))) (aCons (eTup (aCons (eC (.str ("choice" : Str))) (aCons (eC (.int 1)) aNil))) aNil))) (aCons (eTup (aCons (eTup (aCons (eTup (aCons (eC (.int 0)) aNil)) aNil)) (aCons (eTup (aCons (eC (.str ("choice" : Str))) (aCons (eC (.int 0)) aNil))) aNil))) (aCons (eTup (aCons (eTup (aCons (eTup (aCons (eLst aNil) aNil)) aNil)) (aCons (eTup (aCons (eC (.str ("choice" : Str))) (aCons (eC (.int 0)) aNil))) aNil))) aNil))))))
  (sSeq (sSet 9 (eN (f1 tupF) (aCons (e2 addF (e2 addF (eLst (aCons (eTup aNil) aNil)) (eLc [24] (iSeq (eTup (aCons (eC (.int 1)) (aCons (eC (.int 2)) (aCons (eC (.int 3)) aNil))))) (gtName 24) eYes (e2 repTF (eTup (aCons (eC (.str ("egg" : Str))) aNil)) (eVar 24)))) (eLc [24] (iSeq (eTup (aCons (eC (.int 1)) (aCons (eC (.int 2)) (aCons (eC (.int 3)) aNil))))) (gtName 24) eYes (e2 repTF (eTup (aCons (eC (.str ("box" : Str))) aNil)) (eVar 24)))) aNil)))
  (sSeq (sApp 8 (eTup (aCons (e2 addF (eVar 9) (eTup (aCons (eTup (aCons (eC (.str ("num" : Str))) aNil)) (aCons (eTup (aCons (eC (.str ("top" : Str))) aNil)) aNil)))) (aCons (eTup (aCons (eC (.str ("choice" : Str))) (aCons (eC .non) aNil))) aNil))))
  (sSeq (sSet 10 (eLst (aCons (eC .non) (aCons (eLst (aCons (eC (.str ("egg" : Str))) aNil)) (aCons (eTup (aCons (eC (.str ("cat" : Str))) aNil)) (aCons (e2 repTF (eTup (aCons (eC (.str ("num" : Str))) aNil)) (eC (.int 4))) (aCons (eTup (aCons (eC (.str ("unset" : Str))) aNil)) (aCons (eTup (aCons (eC (.int 0)) aNil)) (aCons (eTup (aCons (eLst aNil) aNil)) (aCons (eC (.str ("egg" : Str))) aNil))))))))))
  (sSeq (sSet 10 (eLc [22] (iSeq (eVar 10)) (gtName 22) eYes (eTup (aCons (eVar 22) (aCons (eC (.str ("kinds" : Str))) aNil)))))
  (sSeq (sSet 11 (eLc [22] (iSeq (eLst (aCons (eC .non) (aCons (eLst (aCons (eC (.str ("ma" : Str))) aNil)) (aCons (eTup (aCons (eC (.str ("mb" : Str))) (aCons (eC (.str ("ma" : Str))) aNil))) (aCons (eTup (aCons (eC (.str ("ma" : Str))) (aCons (eC (.str ("ma" : Str))) aNil))) (aCons (eTup (aCons (eC (.str ("Ma" : Str))) aNil)) (aCons (eTup (aCons (eC (.int 0)) aNil)) (aCons (eC (.str ("ma" : Str))) (aCons (eTup (aCons (eLst aNil) aNil)) aNil)))))))))) (gtName 22) eYes (eTup (aCons (eVar 22) (aCons (eC (.str ("words" : Str))) aNil)))))
  (sSeq (sSet 12 (eLc [22] (iSeq (eLst (aCons (eC .non) (aCons (eTup aNil) (aCons (eLst (aCons (eC (.str ("egg" : Str))) aNil)) (aCons (eTup (aCons (eC (.str ("egg" : Str))) (aCons (eC (.str ("egg" : Str))) aNil))) (aCons (eTup (aCons (eC (.str ("cat" : Str))) aNil)) (aCons (eTup (aCons (eC (.int 0)) aNil)) (aCons (eTup (aCons (eLst aNil) aNil)) (aCons (eC (.str ("egg" : Str))) aNil)))))))))) (gtName 22) eYes (eTup (aCons (eVar 22) (aCons (eC (.str ("names" : Str))) aNil)))))
  (sSeq (sSet 13 (eLst (aCons (eVar 5) (aCons (eVar 6) (aCons (eVar 7) (aCons (eVar 8) (aCons (eVar 10) (aCons (eVar 11) (aCons (eVar 12) aNil)))))))))
  (sSeq (sSet 14 (eLst (aCons (eC (.str ("egg" : Str))) (aCons (eC (.str ("ma" : Str))) (aCons (eC (.int 0)) (aCons (eTup (aCons (eTup (aCons (eC (.str ("egg" : Str))) aNil)) (aCons (eTup (aCons (eC (.str ("box" : Str))) aNil)) aNil))) (aCons (eTup (aCons (eC (.str ("box" : Str))) aNil)) (aCons (eTup (aCons (eC (.str ("ma" : Str))) (aCons (eC (.str ("zz" : Str))) aNil))) (aCons (eTup (aCons (eC (.str ("top" : Str))) (aCons (eC (.str ("box" : Str))) aNil))) aNil)))))))))
  (sSeq (sSet 15 (e2 addF (e2 addF (e2 addF (eLst (aCons (eLst (aCons (eC (.int 0)) aNil)) (aCons (eLst (aCons (eC (.int 0)) (aCons (eC (.int 1)) aNil))) (aCons (eLst (aCons (eC (.int 0)) (aCons (eC (.int 2)) aNil))) aNil)))) (eRep (eLst (aCons (eLst (aCons (eC (.int 0)) (aCons (eC (.int 1)) aNil))) aNil)) (eC (.int 4)))) (eRep (eLst (aCons (eLst (aCons (eC (.int 3)) (aCons (eC (.int 4)) aNil))) aNil)) (eC (.int 4)))) (eLst (aCons (eLst (aCons (eC (.int 3)) aNil)) (aCons (eLst (aCons (eC (.int 5)) aNil)) (aCons (eLst (aCons (eC (.int 5)) aNil)) (aCons (eLst (aCons (eC (.int 5)) aNil)) (aCons (eLst (aCons (eC (.int 6)) aNil)) (aCons (eLst aNil) (aCons (eLst aNil) aNil))))))))))
  (sSeq (sFor (iRange1 (aCons (eC (.int 9)) aNil)) (gtName 16) (sSeq (sPar [17, 18] (aCons (eCall f__law_taken (aCons (eVar 1) (aCons (eC (.int 18)) aNil))) (aCons (eLc [23] (iRange1 (aCons (eC (.int 8)) aNil)) (gtName 23) eYes (e2 eqF (eCall f__law_taken (aCons (eVar 1) (aCons (eC (.int 3)) aNil))) (eC (.int 0)))) aNil)))
  (sSeq (sSet 19 (eLc [23] (iRange1 (aCons (eC (.int 7)) aNil)) (gtName 23) eYes (eIf (eTru (e2 ixF (eVar 18) (eVar 23))) (eCall f__law_pick (aCons (eVar 1) (aCons (e2 ixF (eVar 13) (eVar 23)) aNil))) (eTup (aCons (e2 ixF (eVar 14) (eVar 23)) (aCons (eC (.str ("" : Str))) aNil))))))
  (sSeq (sSet 20 (eLc [23] (iSeq (e2 ixF (eVar 15) (eVar 17))) (gtName 23) (eTru (e2 ixF (eVar 18) (eVar 23))) (e2 ixF (e2 ixF (eVar 19) (eVar 23)) (eC (.int 1)))))
  (sSeq (sSet 21 (eCall f__law_pick (aCons (eVar 1) (aCons (eLst (aCons (eC .non) (aCons (eVar 3) (aCons (eC (.str ("house" : Str))) (aCons (eC (.int 0)) (aCons eNewK (aCons (eTup aNil) aNil))))))) aNil))))
  (sSeq (sSet 20 (e2 addF (e2 addF (eRep (eLst (aCons (eC (.str ("house" : Str))) aNil)) (eN (f1 intF) (aCons (e2 ixF (eVar 18) (eC (.int 7))) aNil))) (eVar 20)) (eLst (aCons (eC (.str ("" : Str))) aNil))))
  (sIf (e2 neF (eLam f__law_errorc (eCall f__law_ask (aCons (eVar 17) (aCons (eIf (eTru (e2 ixF (eVar 18) (eC (.int 7)))) (eVar 21) (eVar 4)) (aCons (eLc [25] (iSeq (eVar 19)) (gtName 25) eYes (e2 ixF (eVar 25) (eC (.int 0)))) aNil))))) (e2 ixF (eVar 20) (eC (.int 0)))) (sRet (eC (.bl false))) sNext)))))))
  (sSeq (sIf (e2 neF (eLam f__law_errorc (eCall f_takers (aCons (eVar 4) (aCons (e2 addF (eVar 9) (eTup (aCons (eTup (aCons (eC (.str ("num" : Str))) aNil)) aNil))) (aCons (eTup aNil) aNil))))) (eC (.str ("" : Str)))) (sRet (eC (.bl false))) sNext)
  (sRet (e2 eqF (eLam f__law_errorc (eCall f_reached_from (aCons (eVar 4) (aCons (eC (.str ("top" : Str))) (aCons (eC (.str ("ma" : Str))) aNil))))) (eC (.str ("own" : Str))))))))))))))))))))))))))))
def f_law : FF := fnD 26 b_law

end K53

set_option maxHeartbeats 4000000
namespace K53
open DL PySem PySem.Spec PyProof.Rows L2 H
/-! ### the values that are asked -/
def egg : D := .str "egg"
def box : D := .str "box"
def maw : D := .str "ma"
def nmw : D := .str "num"
def one1 : D := .tup [egg]
def showM : D := .tup [maw, .tup [], nmw, .tup [.tup [.str "push", .int 1], .tup [.str "give"]], .tup []]
def clsD : D := .tup [.tup [egg, .str "top", .tup [], .tup [showM]], .tup [box, egg, .tup [], .tup [showM]]]
def hsO : SO := .ins "House" [("told", clsD)]
def namesB : List D := [.non, .str "cat", nmw, .str "none", .int 0, .lst [], one1, .dct [], .str "Top"]
def wordsB : List D := [.non, .str "", .str "Ma", .str "abcdefg", .str "a1", .int 0, .lst [], .tup [maw], .str "m a"]
def slotsB : List D := [.non, .int (-1), .int 1, .bl true, .str "0", .lst [], .tup [.int 0]]
def nine : List D := [.tup [], .tup [egg], .tup [egg, egg], .tup [egg, egg, egg], .tup [box], .tup [box, box], .tup [box, box, box]]
def chN : D := .tup [.str "choice", .non]
def ch0 : D := .tup [.str "choice", .int 0]
def ch1 : D := .tup [.str "choice", .int 1]
def choB : List (D × D) := [(.non, chN), (.tup [], chN), (.lst [one1], chN), (.tup [one1, .tup [.str "cat"]], ch1), (.tup [one1, one1], ch1), (.tup [.non], ch0), (.dct [], chN),
  (.tup [.tup [nmw, nmw, nmw, nmw]], ch0), (.tup [one1, .tup [.str "none"], .non], ch1), (.tup [.tup [], .lst [egg]], ch1), (.tup [.tup [.int 0]], ch0), (.tup [.tup [.lst []]], ch0), (.tup (nine ++ [.tup [nmw], .tup [.str "top"]]), chN)]
def kindB : List D := [.non, .lst [egg], .tup [.str "cat"], .tup [nmw, nmw, nmw, nmw], .tup [.str "unset"], .tup [.int 0], .tup [.lst []], egg]
def lotB : List D := [.non, .lst [maw], .tup [.str "mb", maw], .tup [maw, maw], .tup [.str "Ma"], .tup [.int 0], maw, .tup [.lst []]]
def setB : List D := [.non, .tup [], .lst [egg], .tup [egg, egg], .tup [.str "cat"], .tup [.int 0], .tup [.lst []], egg]
def lab (w : Str) (l : List D) : List (D × D) := l.map fun v => (v, .str w)
def bad : List (List (D × D)) := [lab "name" namesB, lab "word" wordsB, lab "slot" slotsB, choB, lab "kinds" kindB, lab "words" lotB, lab "names" setB]
def good : List D := [egg, maw, .int 0, .tup [one1, .tup [box]], .tup [box], .tup [maw, .str "zz"], .tup [.str "top", box]]
def noneL : List D := [.non, clsD, .str "house", .int 0, .dct [], .tup []]
def places : List (List Nat) := [[0], [0, 1], [0, 2], [0, 1], [0, 1], [0, 1], [0, 1], [3, 4], [3, 4], [3, 4], [3, 4], [3], [5], [5], [5], [6], [], []]
def errc (w : Int) (h : D) (args : List D) (S : Sto) : Res := f__law_errorc (fun S' => f__law_ask [.int w, h, .lst args] S') S
variable (o : SO) (a0 a1 a2 a3 a4 a5 a6 : D)
theorem zh0 : noneL.map (fun h => errc 0 h [a0, a1, a2, a3, a4, a5, a6] [o, hsO]) = noneL.map fun _ => .ok (.str "house") [o, hsO] := by kernel_rfl
theorem za0 : (bad.getD 0 []).map (fun p => errc 0 (.obj 1) [p.1, a1, a2, a3, a4, a5, a6] [o, hsO]) = (bad.getD 0 []).map fun p => .ok p.2 [o, hsO] := by kernel_rfl
theorem zg0 : errc 0 (.obj 1) [egg, a1, a2, a3, a4, a5, a6] [o, hsO] = .ok (.str "") [o, hsO] := by kernel_rfl
theorem zh1 : noneL.map (fun h => errc 1 h [a0, a1, a2, a3, a4, a5, a6] [o, hsO]) = noneL.map fun _ => .ok (.str "house") [o, hsO] := by kernel_rfl
theorem za1 : (bad.getD 0 []).map (fun p => errc 1 (.obj 1) [p.1, a1, a2, a3, a4, a5, a6] [o, hsO]) = (bad.getD 0 []).map fun p => .ok p.2 [o, hsO] := by kernel_rfl
theorem zb1 : (bad.getD 1 []).map (fun p => errc 1 (.obj 1) [egg, p.1, a2, a3, a4, a5, a6] [o, hsO]) = (bad.getD 1 []).map fun p => .ok p.2 [o, hsO] := by kernel_rfl
theorem zg1 : errc 1 (.obj 1) [egg, maw, a2, a3, a4, a5, a6] [o, hsO] = .ok (.str "") [o, hsO] := by kernel_rfl
theorem zh2 : noneL.map (fun h => errc 2 h [a0, a1, a2, a3, a4, a5, a6] [o, hsO]) = noneL.map fun _ => .ok (.str "house") [o, hsO] := by kernel_rfl
theorem za2 : (bad.getD 0 []).map (fun p => errc 2 (.obj 1) [p.1, a1, a2, a3, a4, a5, a6] [o, hsO]) = (bad.getD 0 []).map fun p => .ok p.2 [o, hsO] := by kernel_rfl
theorem zb2 : (bad.getD 2 []).map (fun p => errc 2 (.obj 1) [egg, a1, p.1, a3, a4, a5, a6] [o, hsO]) = (bad.getD 2 []).map fun p => .ok p.2 [o, hsO] := by kernel_rfl
theorem zg2 : errc 2 (.obj 1) [egg, a1, (.int 0), a3, a4, a5, a6] [o, hsO] = .ok (.str "") [o, hsO] := by kernel_rfl
theorem zh3 : noneL.map (fun h => errc 3 h [a0, a1, a2, a3, a4, a5, a6] [o, hsO]) = noneL.map fun _ => .ok (.str "house") [o, hsO] := by kernel_rfl
theorem za3 : (bad.getD 0 []).map (fun p => errc 3 (.obj 1) [p.1, a1, a2, a3, a4, a5, a6] [o, hsO]) = (bad.getD 0 []).map fun p => .ok p.2 [o, hsO] := by kernel_rfl
theorem zb3 : (bad.getD 1 []).map (fun p => errc 3 (.obj 1) [egg, p.1, a2, a3, a4, a5, a6] [o, hsO]) = (bad.getD 1 []).map fun p => .ok p.2 [o, hsO] := by kernel_rfl
theorem zg3 : errc 3 (.obj 1) [egg, maw, a2, a3, a4, a5, a6] [o, hsO] = .ok (.str "") [o, hsO] := by kernel_rfl
theorem zh4 : noneL.map (fun h => errc 4 h [a0, a1, a2, a3, a4, a5, a6] [o, hsO]) = noneL.map fun _ => .ok (.str "house") [o, hsO] := by kernel_rfl
theorem za4 : (bad.getD 0 []).map (fun p => errc 4 (.obj 1) [p.1, a1, a2, a3, a4, a5, a6] [o, hsO]) = (bad.getD 0 []).map fun p => .ok p.2 [o, hsO] := by kernel_rfl
theorem zb4 : (bad.getD 1 []).map (fun p => errc 4 (.obj 1) [egg, p.1, a2, a3, a4, a5, a6] [o, hsO]) = (bad.getD 1 []).map fun p => .ok p.2 [o, hsO] := by kernel_rfl
theorem zg4 : errc 4 (.obj 1) [egg, maw, a2, a3, a4, a5, a6] [o, hsO] = .ok (.str "") [o, hsO] := by kernel_rfl
theorem zh5 : noneL.map (fun h => errc 5 h [a0, a1, a2, a3, a4, a5, a6] [o, hsO]) = noneL.map fun _ => .ok (.str "house") [o, hsO] := by kernel_rfl
theorem za5 : (bad.getD 0 []).map (fun p => errc 5 (.obj 1) [p.1, a1, a2, a3, a4, a5, a6] [o, hsO]) = (bad.getD 0 []).map fun p => .ok p.2 [o, hsO] := by kernel_rfl
theorem zb5 : (bad.getD 1 []).map (fun p => errc 5 (.obj 1) [egg, p.1, a2, a3, a4, a5, a6] [o, hsO]) = (bad.getD 1 []).map fun p => .ok p.2 [o, hsO] := by kernel_rfl
theorem zg5 : errc 5 (.obj 1) [egg, maw, a2, a3, a4, a5, a6] [o, hsO] = .ok (.str "") [o, hsO] := by kernel_rfl
theorem zh6 : noneL.map (fun h => errc 6 h [a0, a1, a2, a3, a4, a5, a6] [o, hsO]) = noneL.map fun _ => .ok (.str "house") [o, hsO] := by kernel_rfl
theorem za6 : (bad.getD 0 []).map (fun p => errc 6 (.obj 1) [p.1, a1, a2, a3, a4, a5, a6] [o, hsO]) = (bad.getD 0 []).map fun p => .ok p.2 [o, hsO] := by kernel_rfl
theorem zb6 : (bad.getD 1 []).map (fun p => errc 6 (.obj 1) [egg, p.1, a2, a3, a4, a5, a6] [o, hsO]) = (bad.getD 1 []).map fun p => .ok p.2 [o, hsO] := by kernel_rfl
theorem zg6 : errc 6 (.obj 1) [egg, maw, a2, a3, a4, a5, a6] [o, hsO] = .ok (.str "") [o, hsO] := by kernel_rfl
theorem zh7 : noneL.map (fun h => errc 7 h [a0, a1, a2, a3, a4, a5, a6] [o, hsO]) = noneL.map fun _ => .ok (.str "house") [o, hsO] := by kernel_rfl
theorem za7 : (bad.getD 3 []).map (fun p => errc 7 (.obj 1) [a0, a1, a2, p.1, a4, a5, a6] [o, hsO]) = (bad.getD 3 []).map fun p => .ok p.2 [o, hsO] := by kernel_rfl
theorem zb7 : (bad.getD 4 []).map (fun p => errc 7 (.obj 1) [a0, a1, a2, (.tup [one1, .tup [box]]), p.1, a5, a6] [o, hsO]) = (bad.getD 4 []).map fun p => .ok p.2 [o, hsO] := by kernel_rfl
theorem zg7 : errc 7 (.obj 1) [a0, a1, a2, (.tup [one1, .tup [box]]), (.tup [box]), a5, a6] [o, hsO] = .ok (.str "") [o, hsO] := by kernel_rfl
theorem zh8 : noneL.map (fun h => errc 8 h [a0, a1, a2, a3, a4, a5, a6] [o, hsO]) = noneL.map fun _ => .ok (.str "house") [o, hsO] := by kernel_rfl
theorem za8 : (bad.getD 3 []).map (fun p => errc 8 (.obj 1) [a0, a1, a2, p.1, a4, a5, a6] [o, hsO]) = (bad.getD 3 []).map fun p => .ok p.2 [o, hsO] := by kernel_rfl
theorem zb8 : (bad.getD 4 []).map (fun p => errc 8 (.obj 1) [a0, a1, a2, (.tup [one1, .tup [box]]), p.1, a5, a6] [o, hsO]) = (bad.getD 4 []).map fun p => .ok p.2 [o, hsO] := by kernel_rfl
theorem zg8 : errc 8 (.obj 1) [a0, a1, a2, (.tup [one1, .tup [box]]), (.tup [box]), a5, a6] [o, hsO] = .ok (.str "") [o, hsO] := by kernel_rfl
theorem zh9 : noneL.map (fun h => errc 9 h [a0, a1, a2, a3, a4, a5, a6] [o, hsO]) = noneL.map fun _ => .ok (.str "house") [o, hsO] := by kernel_rfl
theorem za9 : (bad.getD 3 []).map (fun p => errc 9 (.obj 1) [a0, a1, a2, p.1, a4, a5, a6] [o, hsO]) = (bad.getD 3 []).map fun p => .ok p.2 [o, hsO] := by kernel_rfl
theorem zb9 : (bad.getD 4 []).map (fun p => errc 9 (.obj 1) [a0, a1, a2, (.tup [one1, .tup [box]]), p.1, a5, a6] [o, hsO]) = (bad.getD 4 []).map fun p => .ok p.2 [o, hsO] := by kernel_rfl
theorem zg9 : errc 9 (.obj 1) [a0, a1, a2, (.tup [one1, .tup [box]]), (.tup [box]), a5, a6] [o, hsO] = .ok (.str "") [o, hsO] := by kernel_rfl
theorem zh10 : noneL.map (fun h => errc 10 h [a0, a1, a2, a3, a4, a5, a6] [o, hsO]) = noneL.map fun _ => .ok (.str "house") [o, hsO] := by kernel_rfl
theorem za10 : (bad.getD 3 []).map (fun p => errc 10 (.obj 1) [a0, a1, a2, p.1, a4, a5, a6] [o, hsO]) = (bad.getD 3 []).map fun p => .ok p.2 [o, hsO] := by kernel_rfl
theorem zb10 : (bad.getD 4 []).map (fun p => errc 10 (.obj 1) [a0, a1, a2, (.tup [one1, .tup [box]]), p.1, a5, a6] [o, hsO]) = (bad.getD 4 []).map fun p => .ok p.2 [o, hsO] := by kernel_rfl
theorem zg10 : errc 10 (.obj 1) [a0, a1, a2, (.tup [one1, .tup [box]]), (.tup [box]), a5, a6] [o, hsO] = .ok (.str "") [o, hsO] := by kernel_rfl
theorem zh11 : noneL.map (fun h => errc 11 h [a0, a1, a2, a3, a4, a5, a6] [o, hsO]) = noneL.map fun _ => .ok (.str "house") [o, hsO] := by kernel_rfl
theorem za11 : (bad.getD 3 []).map (fun p => errc 11 (.obj 1) [a0, a1, a2, p.1, a4, a5, a6] [o, hsO]) = (bad.getD 3 []).map fun p => .ok p.2 [o, hsO] := by kernel_rfl
theorem zg11 : errc 11 (.obj 1) [a0, a1, a2, (.tup [one1, .tup [box]]), a4, a5, a6] [o, hsO] = .ok (.str "") [o, hsO] := by kernel_rfl
theorem zh12 : noneL.map (fun h => errc 12 h [a0, a1, a2, a3, a4, a5, a6] [o, hsO]) = noneL.map fun _ => .ok (.str "house") [o, hsO] := by kernel_rfl
theorem za12 : (bad.getD 5 []).map (fun p => errc 12 (.obj 1) [a0, a1, a2, a3, a4, p.1, a6] [o, hsO]) = (bad.getD 5 []).map fun p => .ok p.2 [o, hsO] := by kernel_rfl
theorem zg12 : errc 12 (.obj 1) [a0, a1, a2, a3, a4, (.tup [maw, .str "zz"]), a6] [o, hsO] = .ok (.str "") [o, hsO] := by kernel_rfl
theorem zh13 : noneL.map (fun h => errc 13 h [a0, a1, a2, a3, a4, a5, a6] [o, hsO]) = noneL.map fun _ => .ok (.str "house") [o, hsO] := by kernel_rfl
theorem za13 : (bad.getD 5 []).map (fun p => errc 13 (.obj 1) [a0, a1, a2, a3, a4, p.1, a6] [o, hsO]) = (bad.getD 5 []).map fun p => .ok p.2 [o, hsO] := by kernel_rfl
theorem zg13 : errc 13 (.obj 1) [a0, a1, a2, a3, a4, (.tup [maw, .str "zz"]), a6] [o, hsO] = .ok (.str "") [o, hsO] := by kernel_rfl
theorem zh14 : noneL.map (fun h => errc 14 h [a0, a1, a2, a3, a4, a5, a6] [o, hsO]) = noneL.map fun _ => .ok (.str "house") [o, hsO] := by kernel_rfl
theorem za14 : (bad.getD 5 []).map (fun p => errc 14 (.obj 1) [a0, a1, a2, a3, a4, p.1, a6] [o, hsO]) = (bad.getD 5 []).map fun p => .ok p.2 [o, hsO] := by kernel_rfl
theorem zg14 : errc 14 (.obj 1) [a0, a1, a2, a3, a4, (.tup [maw, .str "zz"]), a6] [o, hsO] = .ok (.str "") [o, hsO] := by kernel_rfl
theorem zh15 : noneL.map (fun h => errc 15 h [a0, a1, a2, a3, a4, a5, a6] [o, hsO]) = noneL.map fun _ => .ok (.str "house") [o, hsO] := by kernel_rfl
theorem za15 : (bad.getD 6 []).map (fun p => errc 15 (.obj 1) [a0, a1, a2, a3, a4, a5, p.1] [o, hsO]) = (bad.getD 6 []).map fun p => .ok p.2 [o, hsO] := by kernel_rfl
theorem zg15 : errc 15 (.obj 1) [a0, a1, a2, a3, a4, a5, (.tup [.str "top", box])] [o, hsO] = .ok (.str "") [o, hsO] := by kernel_rfl
theorem zh16 : noneL.map (fun h => errc 16 h [a0, a1, a2, a3, a4, a5, a6] [o, hsO]) = noneL.map fun _ => .ok (.str "house") [o, hsO] := by kernel_rfl
theorem zg16 : errc 16 (.obj 1) [a0, a1, a2, a3, a4, a5, a6] [o, hsO] = .ok (.str "") [o, hsO] := by kernel_rfl
theorem zh17 : noneL.map (fun h => errc 17 h [a0, a1, a2, a3, a4, a5, a6] [o, hsO]) = noneL.map fun _ => .ok (.str "house") [o, hsO] := by kernel_rfl
theorem zg17 : errc 17 (.obj 1) [a0, a1, a2, a3, a4, a5, a6] [o, hsO] = .ok (.str "") [o, hsO] := by kernel_rfl
end K53

set_option maxHeartbeats 4000000
namespace K53
open DL PySem PySem.Spec PyProof.Rows L2 H
def turnB : SF := (sSeq (sPar [17, 18] (aCons (eCall f__law_taken (aCons (eVar 1) (aCons (eC (.int 18)) aNil))) (aCons (eLc [23] (iRange1 (aCons (eC (.int 8)) aNil)) (gtName 23) eYes (e2 eqF (eCall f__law_taken (aCons (eVar 1) (aCons (eC (.int 3)) aNil))) (eC (.int 0)))) aNil)))
  (sSeq (sSet 19 (eLc [23] (iRange1 (aCons (eC (.int 7)) aNil)) (gtName 23) eYes (eIf (eTru (e2 ixF (eVar 18) (eVar 23))) (eCall f__law_pick (aCons (eVar 1) (aCons (e2 ixF (eVar 13) (eVar 23)) aNil))) (eTup (aCons (e2 ixF (eVar 14) (eVar 23)) (aCons (eC (.str ("" : Str))) aNil))))))
  (sSeq (sSet 20 (eLc [23] (iSeq (e2 ixF (eVar 15) (eVar 17))) (gtName 23) (eTru (e2 ixF (eVar 18) (eVar 23))) (e2 ixF (e2 ixF (eVar 19) (eVar 23)) (eC (.int 1)))))
  (sSeq (sSet 21 (eCall f__law_pick (aCons (eVar 1) (aCons (eLst (aCons (eC .non) (aCons (eVar 3) (aCons (eC (.str ("house" : Str))) (aCons (eC (.int 0)) (aCons eNewK (aCons (eTup aNil) aNil))))))) aNil))))
  (sSeq (sSet 20 (e2 addF (e2 addF (eRep (eLst (aCons (eC (.str ("house" : Str))) aNil)) (eN (f1 intF) (aCons (e2 ixF (eVar 18) (eC (.int 7))) aNil))) (eVar 20)) (eLst (aCons (eC (.str ("" : Str))) aNil))))
  (sIf (e2 neF (eLam f__law_errorc (eCall f__law_ask (aCons (eVar 17) (aCons (eIf (eTru (e2 ixF (eVar 18) (eC (.int 7)))) (eVar 21) (eVar 4)) (aCons (eLc [25] (iSeq (eVar 19)) (gtName 25) eYes (e2 ixF (eVar 25) (eC (.int 0)))) aNil))))) (e2 ixF (eVar 20) (eC (.int 0)))) (sRet (eC (.bl false))) sNext))))))
def dP (p : D × D) : D := .tup [p.1, p.2]
def isLab : D → Bool
  | .str _ => true
  | .tup _ => true
  | _ => false
structure LabOk (d : D) : Prop where
  ne : neF d d = some (.bl false)
  de : ∀ S, deref S d = d
theorem lab_of {d : D} (h1 : neF d d = some (.bl false)) (h2 : isLab d = true) : LabOk d := ⟨h1, fun S => by cases d <;> first | rfl | cases h2⟩
theorem map_at {α β : Type} {l : List α} {f g : α → β} (h : l.map f = l.map g) {a : α} (ha : a ∈ l) : f a = g a := (List.map_inj_left.mp h) a ha
theorem nb0 : (bad.getD 0 []).map (fun p => neF p.2 p.2) = (bad.getD 0 []).map fun _ => some (.bl false) := by kernel_rfl
theorem nl0 : (bad.getD 0 []).map (fun p => isLab p.2) = (bad.getD 0 []).map fun _ => true := by kernel_rfl
theorem nb1 : (bad.getD 1 []).map (fun p => neF p.2 p.2) = (bad.getD 1 []).map fun _ => some (.bl false) := by kernel_rfl
theorem nl1 : (bad.getD 1 []).map (fun p => isLab p.2) = (bad.getD 1 []).map fun _ => true := by kernel_rfl
theorem nb2 : (bad.getD 2 []).map (fun p => neF p.2 p.2) = (bad.getD 2 []).map fun _ => some (.bl false) := by kernel_rfl
theorem nl2 : (bad.getD 2 []).map (fun p => isLab p.2) = (bad.getD 2 []).map fun _ => true := by kernel_rfl
theorem nb3 : (bad.getD 3 []).map (fun p => neF p.2 p.2) = (bad.getD 3 []).map fun _ => some (.bl false) := by kernel_rfl
theorem nl3 : (bad.getD 3 []).map (fun p => isLab p.2) = (bad.getD 3 []).map fun _ => true := by kernel_rfl
theorem nb4 : (bad.getD 4 []).map (fun p => neF p.2 p.2) = (bad.getD 4 []).map fun _ => some (.bl false) := by kernel_rfl
theorem nl4 : (bad.getD 4 []).map (fun p => isLab p.2) = (bad.getD 4 []).map fun _ => true := by kernel_rfl
theorem nb5 : (bad.getD 5 []).map (fun p => neF p.2 p.2) = (bad.getD 5 []).map fun _ => some (.bl false) := by kernel_rfl
theorem nl5 : (bad.getD 5 []).map (fun p => isLab p.2) = (bad.getD 5 []).map fun _ => true := by kernel_rfl
theorem nb6 : (bad.getD 6 []).map (fun p => neF p.2 p.2) = (bad.getD 6 []).map fun _ => some (.bl false) := by kernel_rfl
theorem nl6 : (bad.getD 6 []).map (fun p => isLab p.2) = (bad.getD 6 []).map fun _ => true := by kernel_rfl
theorem lab_house : LabOk (.str "house") := lab_of (by kernel_rfl) rfl
theorem lab_nil : LabOk (.str "") := lab_of (by kernel_rfl) rfl
def okP (k : Nat) (s : Bool) (p : D × D) : Prop := if s = true then p ∈ bad.getD k [] else p = (good.getD k .non, .str "")
structure Dr (sp : List Bool) (ps : List (D × D)) : Prop where
  ls : sp.length = 8
  lp : ps.length = 7
  ok : ∀ k p, ps[k]? = some p → okP k (sp.getD k false) p
def pz : D × D := (.non, .non)
def due (w : Nat) (sp : List Bool) (ps : List (D × D)) : List D := ((places.getD w []).filter fun k => sp.getD k false).map fun k => (ps.getD k pz).2
def dueH (w : Nat) (sp : List Bool) (ps : List (D × D)) : List D := (if sp.getD 7 false = true then [.str "house"] else []) ++ due w sp ps ++ [.str ""]
def who (sp : List Bool) (nh : D) : D := if sp.getD 7 false = true then nh else .obj 1
structure Good (w : Nat) (sp : List Bool) (ps : List (D × D)) (nh : D) (o : SO) : Prop where
  ex : ∃ d rest, dueH w sp ps = d :: rest ∧ LabOk d ∧ errc w (who sp nh) (ps.map (·.1)) [o, hsO] = .ok d [o, hsO]
section
variable {sp : List Bool} {ps : List (D × D)} {nh : D} {o : SO}
theorem dr_cases (h : Dr sp ps) : ∃ s0 s1 s2 s3 s4 s5 s6 s7 p0 p1 p2 p3 p4 p5 p6, sp = [s0, s1, s2, s3, s4, s5, s6, s7] ∧ ps = [p0, p1, p2, p3, p4, p5, p6] ∧ okP 0 s0 p0 ∧ okP 1 s1 p1 ∧ okP 2 s2 p2 ∧ okP 3 s3 p3 ∧ okP 4 s4 p4 ∧ okP 5 s5 p5 ∧ okP 6 s6 p6 := by
  obtain ⟨ls, lp, ok⟩ := h
  match sp, ls, ps, lp with
  | [s0, s1, s2, s3, s4, s5, s6, s7], _, [p0, p1, p2, p3, p4, p5, p6], _ => exact ⟨s0, s1, s2, s3, s4, s5, s6, s7, p0, p1, p2, p3, p4, p5, p6, rfl, rfl, ok 0 p0 rfl, ok 1 p1 rfl, ok 2 p2 rfl, ok 3 p3 rfl, ok 4 p4 rfl, ok 5 p5 rfl, ok 6 p6 rfl⟩
theorem t0 (h : Dr sp ps) (hn : nh ∈ noneL) : Good 0 sp ps nh o := by
  obtain ⟨s0, s1, s2, s3, s4, s5, s6, s7, p0, p1, p2, p3, p4, p5, p6, rfl, rfl, k0, k1, k2, k3, k4, k5, k6⟩ := dr_cases h
  refine ⟨?_⟩
  cases s7 with
  | true => exact ⟨.str "house", _, rfl, lab_house, map_at (zh0 o p0.1 p1.1 p2.1 p3.1 p4.1 p5.1 p6.1) hn⟩
  | false =>
    cases s0 with
    | true => exact ⟨p0.2, _, rfl, lab_of (map_at nb0 k0) (map_at nl0 k0), map_at (za0 o p1.1 p2.1 p3.1 p4.1 p5.1 p6.1) k0⟩
    | false =>
      have e0 : p0 = (egg, .str "") := k0
      subst e0
      exact ⟨.str "", _, rfl, lab_nil, zg0 o p1.1 p2.1 p3.1 p4.1 p5.1 p6.1⟩
theorem t1 (h : Dr sp ps) (hn : nh ∈ noneL) : Good 1 sp ps nh o := by
  obtain ⟨s0, s1, s2, s3, s4, s5, s6, s7, p0, p1, p2, p3, p4, p5, p6, rfl, rfl, k0, k1, k2, k3, k4, k5, k6⟩ := dr_cases h
  refine ⟨?_⟩
  cases s7 with
  | true => exact ⟨.str "house", _, rfl, lab_house, map_at (zh1 o p0.1 p1.1 p2.1 p3.1 p4.1 p5.1 p6.1) hn⟩
  | false =>
    cases s0 with
    | true => exact ⟨p0.2, _, rfl, lab_of (map_at nb0 k0) (map_at nl0 k0), map_at (za1 o p1.1 p2.1 p3.1 p4.1 p5.1 p6.1) k0⟩
    | false =>
      have e0 : p0 = (egg, .str "") := k0
      subst e0
      cases s1 with
      | true => exact ⟨p1.2, _, rfl, lab_of (map_at nb1 k1) (map_at nl1 k1), map_at (zb1 o p2.1 p3.1 p4.1 p5.1 p6.1) k1⟩
      | false =>
        have e1 : p1 = (maw, .str "") := k1
        subst e1
        exact ⟨.str "", _, rfl, lab_nil, zg1 o p2.1 p3.1 p4.1 p5.1 p6.1⟩
theorem t2 (h : Dr sp ps) (hn : nh ∈ noneL) : Good 2 sp ps nh o := by
  obtain ⟨s0, s1, s2, s3, s4, s5, s6, s7, p0, p1, p2, p3, p4, p5, p6, rfl, rfl, k0, k1, k2, k3, k4, k5, k6⟩ := dr_cases h
  refine ⟨?_⟩
  cases s7 with
  | true => exact ⟨.str "house", _, rfl, lab_house, map_at (zh2 o p0.1 p1.1 p2.1 p3.1 p4.1 p5.1 p6.1) hn⟩
  | false =>
    cases s0 with
    | true => exact ⟨p0.2, _, rfl, lab_of (map_at nb0 k0) (map_at nl0 k0), map_at (za2 o p1.1 p2.1 p3.1 p4.1 p5.1 p6.1) k0⟩
    | false =>
      have e0 : p0 = (egg, .str "") := k0
      subst e0
      cases s2 with
      | true => exact ⟨p2.2, _, rfl, lab_of (map_at nb2 k2) (map_at nl2 k2), map_at (zb2 o p1.1 p3.1 p4.1 p5.1 p6.1) k2⟩
      | false =>
        have e2 : p2 = ((.int 0), .str "") := k2
        subst e2
        exact ⟨.str "", _, rfl, lab_nil, zg2 o p1.1 p3.1 p4.1 p5.1 p6.1⟩
theorem t3 (h : Dr sp ps) (hn : nh ∈ noneL) : Good 3 sp ps nh o := by
  obtain ⟨s0, s1, s2, s3, s4, s5, s6, s7, p0, p1, p2, p3, p4, p5, p6, rfl, rfl, k0, k1, k2, k3, k4, k5, k6⟩ := dr_cases h
  refine ⟨?_⟩
  cases s7 with
  | true => exact ⟨.str "house", _, rfl, lab_house, map_at (zh3 o p0.1 p1.1 p2.1 p3.1 p4.1 p5.1 p6.1) hn⟩
  | false =>
    cases s0 with
    | true => exact ⟨p0.2, _, rfl, lab_of (map_at nb0 k0) (map_at nl0 k0), map_at (za3 o p1.1 p2.1 p3.1 p4.1 p5.1 p6.1) k0⟩
    | false =>
      have e0 : p0 = (egg, .str "") := k0
      subst e0
      cases s1 with
      | true => exact ⟨p1.2, _, rfl, lab_of (map_at nb1 k1) (map_at nl1 k1), map_at (zb3 o p2.1 p3.1 p4.1 p5.1 p6.1) k1⟩
      | false =>
        have e1 : p1 = (maw, .str "") := k1
        subst e1
        exact ⟨.str "", _, rfl, lab_nil, zg3 o p2.1 p3.1 p4.1 p5.1 p6.1⟩
theorem t4 (h : Dr sp ps) (hn : nh ∈ noneL) : Good 4 sp ps nh o := by
  obtain ⟨s0, s1, s2, s3, s4, s5, s6, s7, p0, p1, p2, p3, p4, p5, p6, rfl, rfl, k0, k1, k2, k3, k4, k5, k6⟩ := dr_cases h
  refine ⟨?_⟩
  cases s7 with
  | true => exact ⟨.str "house", _, rfl, lab_house, map_at (zh4 o p0.1 p1.1 p2.1 p3.1 p4.1 p5.1 p6.1) hn⟩
  | false =>
    cases s0 with
    | true => exact ⟨p0.2, _, rfl, lab_of (map_at nb0 k0) (map_at nl0 k0), map_at (za4 o p1.1 p2.1 p3.1 p4.1 p5.1 p6.1) k0⟩
    | false =>
      have e0 : p0 = (egg, .str "") := k0
      subst e0
      cases s1 with
      | true => exact ⟨p1.2, _, rfl, lab_of (map_at nb1 k1) (map_at nl1 k1), map_at (zb4 o p2.1 p3.1 p4.1 p5.1 p6.1) k1⟩
      | false =>
        have e1 : p1 = (maw, .str "") := k1
        subst e1
        exact ⟨.str "", _, rfl, lab_nil, zg4 o p2.1 p3.1 p4.1 p5.1 p6.1⟩
theorem t5 (h : Dr sp ps) (hn : nh ∈ noneL) : Good 5 sp ps nh o := by
  obtain ⟨s0, s1, s2, s3, s4, s5, s6, s7, p0, p1, p2, p3, p4, p5, p6, rfl, rfl, k0, k1, k2, k3, k4, k5, k6⟩ := dr_cases h
  refine ⟨?_⟩
  cases s7 with
  | true => exact ⟨.str "house", _, rfl, lab_house, map_at (zh5 o p0.1 p1.1 p2.1 p3.1 p4.1 p5.1 p6.1) hn⟩
  | false =>
    cases s0 with
    | true => exact ⟨p0.2, _, rfl, lab_of (map_at nb0 k0) (map_at nl0 k0), map_at (za5 o p1.1 p2.1 p3.1 p4.1 p5.1 p6.1) k0⟩
    | false =>
      have e0 : p0 = (egg, .str "") := k0
      subst e0
      cases s1 with
      | true => exact ⟨p1.2, _, rfl, lab_of (map_at nb1 k1) (map_at nl1 k1), map_at (zb5 o p2.1 p3.1 p4.1 p5.1 p6.1) k1⟩
      | false =>
        have e1 : p1 = (maw, .str "") := k1
        subst e1
        exact ⟨.str "", _, rfl, lab_nil, zg5 o p2.1 p3.1 p4.1 p5.1 p6.1⟩
theorem t6 (h : Dr sp ps) (hn : nh ∈ noneL) : Good 6 sp ps nh o := by
  obtain ⟨s0, s1, s2, s3, s4, s5, s6, s7, p0, p1, p2, p3, p4, p5, p6, rfl, rfl, k0, k1, k2, k3, k4, k5, k6⟩ := dr_cases h
  refine ⟨?_⟩
  cases s7 with
  | true => exact ⟨.str "house", _, rfl, lab_house, map_at (zh6 o p0.1 p1.1 p2.1 p3.1 p4.1 p5.1 p6.1) hn⟩
  | false =>
    cases s0 with
    | true => exact ⟨p0.2, _, rfl, lab_of (map_at nb0 k0) (map_at nl0 k0), map_at (za6 o p1.1 p2.1 p3.1 p4.1 p5.1 p6.1) k0⟩
    | false =>
      have e0 : p0 = (egg, .str "") := k0
      subst e0
      cases s1 with
      | true => exact ⟨p1.2, _, rfl, lab_of (map_at nb1 k1) (map_at nl1 k1), map_at (zb6 o p2.1 p3.1 p4.1 p5.1 p6.1) k1⟩
      | false =>
        have e1 : p1 = (maw, .str "") := k1
        subst e1
        exact ⟨.str "", _, rfl, lab_nil, zg6 o p2.1 p3.1 p4.1 p5.1 p6.1⟩
theorem t7 (h : Dr sp ps) (hn : nh ∈ noneL) : Good 7 sp ps nh o := by
  obtain ⟨s0, s1, s2, s3, s4, s5, s6, s7, p0, p1, p2, p3, p4, p5, p6, rfl, rfl, k0, k1, k2, k3, k4, k5, k6⟩ := dr_cases h
  refine ⟨?_⟩
  cases s7 with
  | true => exact ⟨.str "house", _, rfl, lab_house, map_at (zh7 o p0.1 p1.1 p2.1 p3.1 p4.1 p5.1 p6.1) hn⟩
  | false =>
    cases s3 with
    | true => exact ⟨p3.2, _, rfl, lab_of (map_at nb3 k3) (map_at nl3 k3), map_at (za7 o p0.1 p1.1 p2.1 p4.1 p5.1 p6.1) k3⟩
    | false =>
      have e3 : p3 = ((.tup [one1, .tup [box]]), .str "") := k3
      subst e3
      cases s4 with
      | true => exact ⟨p4.2, _, rfl, lab_of (map_at nb4 k4) (map_at nl4 k4), map_at (zb7 o p0.1 p1.1 p2.1 p5.1 p6.1) k4⟩
      | false =>
        have e4 : p4 = ((.tup [box]), .str "") := k4
        subst e4
        exact ⟨.str "", _, rfl, lab_nil, zg7 o p0.1 p1.1 p2.1 p5.1 p6.1⟩
theorem t8 (h : Dr sp ps) (hn : nh ∈ noneL) : Good 8 sp ps nh o := by
  obtain ⟨s0, s1, s2, s3, s4, s5, s6, s7, p0, p1, p2, p3, p4, p5, p6, rfl, rfl, k0, k1, k2, k3, k4, k5, k6⟩ := dr_cases h
  refine ⟨?_⟩
  cases s7 with
  | true => exact ⟨.str "house", _, rfl, lab_house, map_at (zh8 o p0.1 p1.1 p2.1 p3.1 p4.1 p5.1 p6.1) hn⟩
  | false =>
    cases s3 with
    | true => exact ⟨p3.2, _, rfl, lab_of (map_at nb3 k3) (map_at nl3 k3), map_at (za8 o p0.1 p1.1 p2.1 p4.1 p5.1 p6.1) k3⟩
    | false =>
      have e3 : p3 = ((.tup [one1, .tup [box]]), .str "") := k3
      subst e3
      cases s4 with
      | true => exact ⟨p4.2, _, rfl, lab_of (map_at nb4 k4) (map_at nl4 k4), map_at (zb8 o p0.1 p1.1 p2.1 p5.1 p6.1) k4⟩
      | false =>
        have e4 : p4 = ((.tup [box]), .str "") := k4
        subst e4
        exact ⟨.str "", _, rfl, lab_nil, zg8 o p0.1 p1.1 p2.1 p5.1 p6.1⟩
theorem t9 (h : Dr sp ps) (hn : nh ∈ noneL) : Good 9 sp ps nh o := by
  obtain ⟨s0, s1, s2, s3, s4, s5, s6, s7, p0, p1, p2, p3, p4, p5, p6, rfl, rfl, k0, k1, k2, k3, k4, k5, k6⟩ := dr_cases h
  refine ⟨?_⟩
  cases s7 with
  | true => exact ⟨.str "house", _, rfl, lab_house, map_at (zh9 o p0.1 p1.1 p2.1 p3.1 p4.1 p5.1 p6.1) hn⟩
  | false =>
    cases s3 with
    | true => exact ⟨p3.2, _, rfl, lab_of (map_at nb3 k3) (map_at nl3 k3), map_at (za9 o p0.1 p1.1 p2.1 p4.1 p5.1 p6.1) k3⟩
    | false =>
      have e3 : p3 = ((.tup [one1, .tup [box]]), .str "") := k3
      subst e3
      cases s4 with
      | true => exact ⟨p4.2, _, rfl, lab_of (map_at nb4 k4) (map_at nl4 k4), map_at (zb9 o p0.1 p1.1 p2.1 p5.1 p6.1) k4⟩
      | false =>
        have e4 : p4 = ((.tup [box]), .str "") := k4
        subst e4
        exact ⟨.str "", _, rfl, lab_nil, zg9 o p0.1 p1.1 p2.1 p5.1 p6.1⟩
theorem t10 (h : Dr sp ps) (hn : nh ∈ noneL) : Good 10 sp ps nh o := by
  obtain ⟨s0, s1, s2, s3, s4, s5, s6, s7, p0, p1, p2, p3, p4, p5, p6, rfl, rfl, k0, k1, k2, k3, k4, k5, k6⟩ := dr_cases h
  refine ⟨?_⟩
  cases s7 with
  | true => exact ⟨.str "house", _, rfl, lab_house, map_at (zh10 o p0.1 p1.1 p2.1 p3.1 p4.1 p5.1 p6.1) hn⟩
  | false =>
    cases s3 with
    | true => exact ⟨p3.2, _, rfl, lab_of (map_at nb3 k3) (map_at nl3 k3), map_at (za10 o p0.1 p1.1 p2.1 p4.1 p5.1 p6.1) k3⟩
    | false =>
      have e3 : p3 = ((.tup [one1, .tup [box]]), .str "") := k3
      subst e3
      cases s4 with
      | true => exact ⟨p4.2, _, rfl, lab_of (map_at nb4 k4) (map_at nl4 k4), map_at (zb10 o p0.1 p1.1 p2.1 p5.1 p6.1) k4⟩
      | false =>
        have e4 : p4 = ((.tup [box]), .str "") := k4
        subst e4
        exact ⟨.str "", _, rfl, lab_nil, zg10 o p0.1 p1.1 p2.1 p5.1 p6.1⟩
theorem t11 (h : Dr sp ps) (hn : nh ∈ noneL) : Good 11 sp ps nh o := by
  obtain ⟨s0, s1, s2, s3, s4, s5, s6, s7, p0, p1, p2, p3, p4, p5, p6, rfl, rfl, k0, k1, k2, k3, k4, k5, k6⟩ := dr_cases h
  refine ⟨?_⟩
  cases s7 with
  | true => exact ⟨.str "house", _, rfl, lab_house, map_at (zh11 o p0.1 p1.1 p2.1 p3.1 p4.1 p5.1 p6.1) hn⟩
  | false =>
    cases s3 with
    | true => exact ⟨p3.2, _, rfl, lab_of (map_at nb3 k3) (map_at nl3 k3), map_at (za11 o p0.1 p1.1 p2.1 p4.1 p5.1 p6.1) k3⟩
    | false =>
      have e3 : p3 = ((.tup [one1, .tup [box]]), .str "") := k3
      subst e3
      exact ⟨.str "", _, rfl, lab_nil, zg11 o p0.1 p1.1 p2.1 p4.1 p5.1 p6.1⟩
theorem t12 (h : Dr sp ps) (hn : nh ∈ noneL) : Good 12 sp ps nh o := by
  obtain ⟨s0, s1, s2, s3, s4, s5, s6, s7, p0, p1, p2, p3, p4, p5, p6, rfl, rfl, k0, k1, k2, k3, k4, k5, k6⟩ := dr_cases h
  refine ⟨?_⟩
  cases s7 with
  | true => exact ⟨.str "house", _, rfl, lab_house, map_at (zh12 o p0.1 p1.1 p2.1 p3.1 p4.1 p5.1 p6.1) hn⟩
  | false =>
    cases s5 with
    | true => exact ⟨p5.2, _, rfl, lab_of (map_at nb5 k5) (map_at nl5 k5), map_at (za12 o p0.1 p1.1 p2.1 p3.1 p4.1 p6.1) k5⟩
    | false =>
      have e5 : p5 = ((.tup [maw, .str "zz"]), .str "") := k5
      subst e5
      exact ⟨.str "", _, rfl, lab_nil, zg12 o p0.1 p1.1 p2.1 p3.1 p4.1 p6.1⟩
theorem t13 (h : Dr sp ps) (hn : nh ∈ noneL) : Good 13 sp ps nh o := by
  obtain ⟨s0, s1, s2, s3, s4, s5, s6, s7, p0, p1, p2, p3, p4, p5, p6, rfl, rfl, k0, k1, k2, k3, k4, k5, k6⟩ := dr_cases h
  refine ⟨?_⟩
  cases s7 with
  | true => exact ⟨.str "house", _, rfl, lab_house, map_at (zh13 o p0.1 p1.1 p2.1 p3.1 p4.1 p5.1 p6.1) hn⟩
  | false =>
    cases s5 with
    | true => exact ⟨p5.2, _, rfl, lab_of (map_at nb5 k5) (map_at nl5 k5), map_at (za13 o p0.1 p1.1 p2.1 p3.1 p4.1 p6.1) k5⟩
    | false =>
      have e5 : p5 = ((.tup [maw, .str "zz"]), .str "") := k5
      subst e5
      exact ⟨.str "", _, rfl, lab_nil, zg13 o p0.1 p1.1 p2.1 p3.1 p4.1 p6.1⟩
theorem t14 (h : Dr sp ps) (hn : nh ∈ noneL) : Good 14 sp ps nh o := by
  obtain ⟨s0, s1, s2, s3, s4, s5, s6, s7, p0, p1, p2, p3, p4, p5, p6, rfl, rfl, k0, k1, k2, k3, k4, k5, k6⟩ := dr_cases h
  refine ⟨?_⟩
  cases s7 with
  | true => exact ⟨.str "house", _, rfl, lab_house, map_at (zh14 o p0.1 p1.1 p2.1 p3.1 p4.1 p5.1 p6.1) hn⟩
  | false =>
    cases s5 with
    | true => exact ⟨p5.2, _, rfl, lab_of (map_at nb5 k5) (map_at nl5 k5), map_at (za14 o p0.1 p1.1 p2.1 p3.1 p4.1 p6.1) k5⟩
    | false =>
      have e5 : p5 = ((.tup [maw, .str "zz"]), .str "") := k5
      subst e5
      exact ⟨.str "", _, rfl, lab_nil, zg14 o p0.1 p1.1 p2.1 p3.1 p4.1 p6.1⟩
theorem t15 (h : Dr sp ps) (hn : nh ∈ noneL) : Good 15 sp ps nh o := by
  obtain ⟨s0, s1, s2, s3, s4, s5, s6, s7, p0, p1, p2, p3, p4, p5, p6, rfl, rfl, k0, k1, k2, k3, k4, k5, k6⟩ := dr_cases h
  refine ⟨?_⟩
  cases s7 with
  | true => exact ⟨.str "house", _, rfl, lab_house, map_at (zh15 o p0.1 p1.1 p2.1 p3.1 p4.1 p5.1 p6.1) hn⟩
  | false =>
    cases s6 with
    | true => exact ⟨p6.2, _, rfl, lab_of (map_at nb6 k6) (map_at nl6 k6), map_at (za15 o p0.1 p1.1 p2.1 p3.1 p4.1 p5.1) k6⟩
    | false =>
      have e6 : p6 = ((.tup [.str "top", box]), .str "") := k6
      subst e6
      exact ⟨.str "", _, rfl, lab_nil, zg15 o p0.1 p1.1 p2.1 p3.1 p4.1 p5.1⟩
theorem t16 (h : Dr sp ps) (hn : nh ∈ noneL) : Good 16 sp ps nh o := by
  obtain ⟨s0, s1, s2, s3, s4, s5, s6, s7, p0, p1, p2, p3, p4, p5, p6, rfl, rfl, k0, k1, k2, k3, k4, k5, k6⟩ := dr_cases h
  refine ⟨?_⟩
  cases s7 with
  | true => exact ⟨.str "house", _, rfl, lab_house, map_at (zh16 o p0.1 p1.1 p2.1 p3.1 p4.1 p5.1 p6.1) hn⟩
  | false =>
    exact ⟨.str "", _, rfl, lab_nil, zg16 o p0.1 p1.1 p2.1 p3.1 p4.1 p5.1 p6.1⟩
theorem t17 (h : Dr sp ps) (hn : nh ∈ noneL) : Good 17 sp ps nh o := by
  obtain ⟨s0, s1, s2, s3, s4, s5, s6, s7, p0, p1, p2, p3, p4, p5, p6, rfl, rfl, k0, k1, k2, k3, k4, k5, k6⟩ := dr_cases h
  refine ⟨?_⟩
  cases s7 with
  | true => exact ⟨.str "house", _, rfl, lab_house, map_at (zh17 o p0.1 p1.1 p2.1 p3.1 p4.1 p5.1 p6.1) hn⟩
  | false =>
    exact ⟨.str "", _, rfl, lab_nil, zg17 o p0.1 p1.1 p2.1 p3.1 p4.1 p5.1 p6.1⟩
theorem good_all (h : Dr sp ps) (hn : nh ∈ noneL) : ∀ w : Nat, w < 18 → Good w sp ps nh o
  | 0, _ => t0 h hn
  | 1, _ => t1 h hn
  | 2, _ => t2 h hn
  | 3, _ => t3 h hn
  | 4, _ => t4 h hn
  | 5, _ => t5 h hn
  | 6, _ => t6 h hn
  | 7, _ => t7 h hn
  | 8, _ => t8 h hn
  | 9, _ => t9 h hn
  | 10, _ => t10 h hn
  | 11, _ => t11 h hn
  | 12, _ => t12 h hn
  | 13, _ => t13 h hn
  | 14, _ => t14 h hn
  | 15, _ => t15 h hn
  | 16, _ => t16 h hn
  | 17, _ => t17 h hn
  | w + 18, hw => absurd hw (by omega)
end
end K53

set_option maxHeartbeats 4000000
namespace K53
open DL PySem PySem.Spec PyProof.Rows L2 H
def dB (l : List (D × D)) : D := .lst (l.map dP)
def badD : D := .lst (bad.map dB)
def plD' (l : List Nat) : D := .lst (l.map fun k : Nat => D.int k)
abbrev env (x0 x16 x17 x18 x19 x20 x21 : Option D) : DEnv := [x0, some (.obj 0), some showM, some clsD, some (.obj 1), some (dB (bad.getD 0 [])), some (dB (bad.getD 1 [])), some (dB (bad.getD 2 [])), some (dB (bad.getD 3 [])), some (.tup nine), some (dB (bad.getD 4 [])), some (dB (bad.getD 5 [])), some (dB (bad.getD 6 [])), some badD, some (.lst good), some (.lst (places.map plD')), x16, x17, x18, x19, x20, x21, none, none, none, none]
theorem lcD_ixE {α : Type} {cells : List Int} {T : Sto} {g : GF} {fe : EF} {ρ : DEnv} (emb : α → D) (val : Nat → α → Prop) : ∀ (n lo : Nat) (acc : List D) (S : Sto), Row cells T S →
    (∀ i, lo ≤ i → i < lo + n → ∀ S, Row cells T S → ∃ ρ1 a S', g (.int (i : Nat)) ρ = some ρ1 ∧ fe ρ1 S = .ok (emb a) S' ∧ val i a ∧ Row cells T S') →
    ∃ (as : List α) (S' : Sto), lcD g eYes fe ((List.range' lo n).map fun i : Nat => D.int i) acc ρ S = .ok (.lst (acc ++ as.map emb)) S' ∧ as.length = n ∧ (∀ i a, as[i]? = some a → val (lo + i) a) ∧ Row cells T S'
  | 0, lo, acc, S, h, _ => ⟨[], S, by simp [lcD], rfl, by simp, h⟩
  | n + 1, lo, acc, S, h, hs => by
    obtain ⟨ρ1, a, S1, e1, e2, v, h1⟩ := hs lo (Nat.le_refl _) (by omega) S h
    obtain ⟨as, S', e, l, va, h'⟩ := lcD_ixE emb val n (lo + 1) (acc ++ [emb a]) S1 h1 (fun i a b S hS => hs i (by omega) (by omega) S hS)
    refine ⟨a :: as, S', ?_, by simp [l], fun i b hb => ?_, h'⟩
    · rw [List.range'_succ, List.map_cons]
      simp only [lcD, e1, e2, eYes]
      rw [e]
      simp
    · cases i with
      | zero => simp at hb; subst hb; exact v
      | succ i =>
        have := va i b (by simpa using hb)
        rwa [show lo + 1 + i = lo + (i + 1) by omega] at this
theorem dInts_r (n : Nat) : dInts 0 n = (List.range' 0 n).map fun i : Nat => D.int i := by
  unfold dInts
  rw [← List.range_eq_range']
  refine List.map_congr_left fun i _ => ?_
  rw [Int.zero_add]
theorem bad_ne : ∀ k, k < 7 → bad.getD k [] ≠ []
  | 0, _ => by simp [bad, lab, namesB]
  | 1, _ => by simp [bad, lab, wordsB]
  | 2, _ => by simp [bad, lab, slotsB]
  | 3, _ => by simp [bad, choB]
  | 4, _ => by simp [bad, lab, kindB]
  | 5, _ => by simp [bad, lab, lotB]
  | 6, _ => by simp [bad, lab, setB]
  | k + 7, h => absurd h (by omega)
theorem bad_len : ∀ k, k < 7 → (bad.getD k []).length < 100000
  | 0, _ => by decide
  | 1, _ => by decide
  | 2, _ => by decide
  | 3, _ => by decide
  | 4, _ => by decide
  | 5, _ => by decide
  | 6, _ => by decide
  | k + 7, h => absurd h (by omega)
theorem places_lt : ∀ l ∈ places, l.length ≤ 2 ∧ ∀ k ∈ l, k < 7 := by decide
theorem place_lt (w : Nat) : (places.getD w []).length ≤ 2 ∧ ∀ k ∈ places.getD w [], k < 7 := by
  rw [List.getD_eq_getElem?_getD]
  cases h : places[w]? with
  | none => simp
  | some l => exact places_lt l (List.mem_of_getElem? h)
theorem ix_at {α : Type} (emb : α → D) (l : List α) (z : α) {k : Nat} (h : k < l.length) : ixF (.lst (l.map emb)) (.int k) = some (emb (l.getD k z)) := by
  have hl : k < (l.map emb).length := by rw [List.length_map]; exact h
  simp only [ixF, ixS]
  rw [atI_nat hl, List.getElem?_map, List.getElem?_eq_getElem h, List.getD_eq_getElem?_getD, List.getElem?_eq_getElem h]
  rfl
section
variable {cells : List Int} {S : Sto} {x0 : Option D} {ρ : DEnv}
theorem sp_at {sp : List Bool} {f1' f2' : EF} {k : Nat} (h1 : f1' ρ S = .ok (.lst (sp.map .bl)) S) (h2 : f2' ρ S = .ok (.int k) S) (h : k < sp.length) : eTru (e2 ixF f1' f2') ρ S = .ok (.bl (sp.getD k false)) S := by
  have e : e2 ixF f1' f2' ρ S = .ok (.bl (sp.getD k false)) S := e2_ok (x := .lst (sp.map .bl)) (y := .int k) (S1 := S) h1 h2 (by rw [deref_lst, deref_int]; exact ix_at D.bl sp false h)
  simp only [eTru, e, Res.bind_ok, deref_bl, truB]
theorem turn_ok {x16 x17 x18 x19 x20 x21 : Option D} (hr : Row cells [hsO] S) :
    ∃ x17' x18' x19' x20' x21' S', turnB (env x0 x16 x17 x18 x19 x20 x21) S = .nx (env x0 x16 x17' x18' x19' x20' x21') S' ∧ Row cells [hsO] S' := by
  obtain ⟨w, S1, e1', a1, b1⟩ := taken_row (m := 18) hr (by decide) (by decide)
  have hw : w < 18 := by omega
  obtain ⟨sp, S2, e2', ls, _, b2⟩ := lcD_ixE (g := gtName 23) (fe := e2 eqF (eCall f__law_taken (aCons (eVar 1) (aCons (eC (.int 3)) aNil))) (eC (.int 0))) (ρ := env x0 x16 x17 x18 x19 x20 x21) D.bl (fun _ _ => True) 8 0 [] S1 b1 (by
    intro i _ _ S hS
    obtain ⟨r, S', e, a, b⟩ := taken_row (m := 3) hS (by decide) (by decide)
    exact ⟨_, decide ((r : Int) = 0), S', rfl, e2_ok (x := .int r) (y := .int 0) (S1 := S') (call_ok (cons_ok (var_ok rfl) (cons_ok c_ok nil_ok)) e) c_ok (by rw [deref_int, deref_int, eqF_int]), trivial, b⟩)
  rw [← dInts_r, List.nil_append] at e2'
  obtain ⟨ps, S3, e3', lp, hp, b3⟩ := lcD_ixE (g := gtName 23) (fe := (eIf (eTru (e2 ixF (eVar 18) (eVar 23))) (eCall f__law_pick (aCons (eVar 1) (aCons (e2 ixF (eVar 13) (eVar 23)) aNil))) (eTup (aCons (e2 ixF (eVar 14) (eVar 23)) (aCons (eC (.str ("" : Str))) aNil))))) (ρ := env x0 x16 (some (.int w)) (some (.lst (sp.map .bl))) x19 x20 x21) dP (fun k p => okP k (sp.getD k false) p) 7 0 [] S2 b2 (by
    intro i _ hi S hS
    have tr := sp_at (ρ := [x0, some (.obj 0), some showM, some clsD, some (.obj 1), some (dB (bad.getD 0 [])), some (dB (bad.getD 1 [])), some (dB (bad.getD 2 [])), some (dB (bad.getD 3 [])), some (.tup nine), some (dB (bad.getD 4 [])), some (dB (bad.getD 5 [])), some (dB (bad.getD 6 [])), some badD, some (.lst good), some (.lst (places.map plD')), x16, some (.int w), some (.lst (sp.map .bl)), x19, x20, x21, none, some (.int i), none, none]) (S := S) (f1' := eVar 18) (f2' := eVar 23) (sp := sp) (k := i) (var_ok rfl) (var_ok rfl) (by omega)
    cases hb : sp.getD i false with
    | true =>
      rw [hb] at tr
      obtain ⟨p, S', e, hp, b⟩ := pick_row dP (bad.getD i []) hS (bad_ne i (by omega)) (bad_len i (by omega))
      refine ⟨_, p, S', rfl, if_tt tr (call_ok (cons_ok (var_ok rfl) (cons_ok (e2_ok (x := badD) (y := .int i) (S1 := S) (d := .lst ((bad.getD i []).map dP)) (var_ok rfl) (var_ok rfl) ?_) nil_ok)) e), ?_, b⟩
      · show ixF (.lst (bad.map dB)) (.int i) = _
        exact ix_at dB bad [] (by show i < 7; omega)
      · unfold okP; rw [if_pos rfl]; exact hp
    | false =>
      rw [hb] at tr
      refine ⟨_, (good.getD i .non, .str ""), S, rfl, if_ff tr (tup_ok (S1 := S) (ds := [good.getD i .non, .str ""]) (cons_ok (e2_ok (x := .lst good) (y := .int i) (S1 := S) (d := good.getD i .non) (var_ok rfl) (var_ok rfl) ?_) (cons_ok c_ok nil_ok)) (by simp)), ?_, hS⟩
      · have := ix_at id good .non (k := i) (by show i < 7; omega)
        rwa [List.map_id] at this
      · unfold okP; rw [if_neg (by simp)])
  rw [← dInts_r, List.nil_append] at e3'
  have hD : Dr sp ps := ⟨ls, lp, fun k p hk => by have := hp k p hk; rwa [Nat.zero_add] at this⟩
  obtain ⟨nh, S4, e4', hn, b4⟩ := pick_row id noneL b3 (by simp [noneL]) (by decide)
  have e4' : f__law_pick [.obj 0, .lst noneL] S3 = .ok nh S4 := by
    have := e4'
    rwa [List.map_id] at this
  obtain ⟨pl2, plt⟩ := place_lt w
  have lc := lcD_filt (g := gtName 23) (fc := eTru (e2 ixF (eVar 18) (eVar 23))) (fe := e2 ixF (e2 ixF (eVar 19) (eVar 23)) (eC (.int 1))) (ρ := env x0 x16 (some (.int w)) (some (.lst (sp.map .bl))) (some (.lst (ps.map dP))) x20 x21) (S := S3) (fun k : Nat => D.int k) (fun k => (ps.getD k pz).2) (fun k => sp.getD k false) (l := places.getD w []) (acc := []) (fun k hk => by
    have h7 := plt k hk
    refine ⟨_, rfl, sp_at (var_ok rfl) (var_ok rfl) (by omega), fun _ => e2_ok (x := dP (ps.getD k pz)) (S1 := S3) (e2_ok (x := .lst (ps.map dP)) (y := .int k) (S1 := S3) (var_ok rfl) (var_ok rfl) (by rw [deref_lst, deref_int]; exact ix_at dP ps pz (by omega))) c_ok (by simp [dP, deref_tup, deref_int, ixF, ixS, atI_1])⟩)
  rw [List.nil_append] at lc
  obtain ⟨⟨d, rest, ed, hd, ee⟩⟩ := good_all (nh := nh) (o := .lst []) hD hn w hw
  have dl : (due w sp ps).length ≤ 2 := by
    unfold due
    rw [List.length_map]
    exact Nat.le_trans (List.length_filter_le _ _) pl2
  refine ⟨some (.int w), some (.lst (sp.map .bl)), some (.lst (ps.map dP)), some (.lst (dueH w sp ps)), some nh, S4, ?_, b4⟩
  unfold turnB
  rw [seq_nx (par_ok (ds := [.int w, .lst (sp.map .bl)]) (S1 := S2) (cons_ok (call_ok (cons_ok (var_ok rfl) (cons_ok c_ok nil_ok)) e1') (cons_ok (lc_ok (S1 := S1) (range_ok (n := 8) (cons_ok (by exact c_ok) nil_ok) (by decide)) e2') nil_ok)))]
  simp only [putD', List.set_cons_succ, List.set_cons_zero]
  rw [seq_set (d := .lst (ps.map dP)) (S' := S3) (lc_ok (S1 := S2) (range_ok (n := 7) (cons_ok (by exact c_ok) nil_ok) (by decide)) e3')]
  simp only [List.set_cons_succ, List.set_cons_zero]
  rw [seq_set (d := .lst (due w sp ps)) (S' := S3) (lc_ok (S1 := S3) (ds := (places.getD w []).map fun k : Nat => D.int k) (seq_ok (e2_ok (x := .lst (places.map plD')) (y := .int w) (S1 := S3) (d := plD' (places.getD w [])) (var_ok rfl) (var_ok rfl) (by rw [deref_lst, deref_int]; exact ix_at plD' places [] (by show w < 18; exact hw)))) lc)]
  simp only [List.set_cons_succ, List.set_cons_zero]
  rw [seq_set (d := nh) (S' := S4) (call_ok (cons_ok (var_ok rfl) (cons_ok (d := .lst noneL) (S1 := S3) (by kernel_rfl) nil_ok)) e4')]
  simp only [List.set_cons_succ, List.set_cons_zero]
  have l7 : 7 < sp.length := by omega
  have rep : eRep (eLst (aCons (eC (.str ("house" : Str))) aNil)) (eN (f1 intF) (aCons (e2 ixF (eVar 18) (eC (.int 7))) aNil)) (env x0 x16 (some (.int w)) (some (.lst (sp.map .bl))) (some (.lst (ps.map dP))) (some (.lst (due w sp ps))) (some nh)) S4 = .ok (.lst (if sp.getD 7 false = true then [.str "house"] else [])) S4 := by
    have i7 : e2 ixF (eVar 18) (eC (.int 7)) (env x0 x16 (some (.int w)) (some (.lst (sp.map .bl))) (some (.lst (ps.map dP))) (some (.lst (due w sp ps))) (some nh)) S4 = .ok (.bl (sp.getD 7 false)) S4 := e2_ok (x := .lst (sp.map .bl)) (y := .int ((7 : Nat) : Int)) (S1 := S4) (var_ok rfl) (by exact c_ok) (by rw [deref_lst, deref_int]; exact ix_at D.bl sp false l7)
    have li : eLst (aCons (eC (.str ("house" : Str))) aNil) (env x0 x16 (some (.int w)) (some (.lst (sp.map .bl))) (some (.lst (ps.map dP))) (some (.lst (due w sp ps))) (some nh)) S4 = .ok (.lst [.str "house"]) S4 := lst_ok (cons_ok c_ok nil_ok) (by simp)
    have ni : eN (f1 intF) (aCons (e2 ixF (eVar 18) (eC (.int 7))) aNil) (env x0 x16 (some (.int w)) (some (.lst (sp.map .bl))) (some (.lst (ps.map dP))) (some (.lst (due w sp ps))) (some nh)) S4 = .ok (.int (if sp.getD 7 false = true then 1 else 0)) S4 := eN_ok (ds := [.bl (sp.getD 7 false)]) (cons_ok i7 nil_ok) (by cases sp.getD 7 false <;> rfl)
    simp only [eRep, li, ni, Res.bind_ok]
    cases sp.getD 7 false <;> rfl
  rw [seq_set (d := .lst (dueH w sp ps)) (S' := S4) (e2_ok (x := .lst ((if sp.getD 7 false = true then [.str "house"] else []) ++ due w sp ps)) (y := .lst [.str ""]) (S1 := S4) (e2_ok (x := .lst (if sp.getD 7 false = true then [.str "house"] else [])) (y := .lst (due w sp ps)) (S1 := S4) rep (var_ok rfl) (by
    have q : (if sp.getD 7 false = true then [D.str "house"] else []).length + (due w sp ps).length < LIM := lim_le (by split <;> simp <;> omega)
    rw [deref_lst, deref_lst]
    simp only [addF, if_pos q])) (lst_ok (cons_ok c_ok nil_ok) (by simp)) (by
    have q : ((if sp.getD 7 false = true then [D.str "house"] else []) ++ due w sp ps).length + [D.str ""].length < LIM := lim_le (by rw [List.length_append]; split <;> simp <;> omega)
    rw [deref_lst, deref_lst]
    simp only [addF, if_pos q]
    rfl))]
  simp only [List.set_cons_succ, List.set_cons_zero]
  have th : ∀ S', (eCall f__law_ask (aCons (eVar 17) (aCons (eIf (eTru (e2 ixF (eVar 18) (eC (.int 7)))) (eVar 21) (eVar 4)) (aCons (eLc [25] (iSeq (eVar 19)) (gtName 25) eYes (e2 ixF (eVar 25) (eC (.int 0)))) aNil)))) (env x0 x16 (some (.int w)) (some (.lst (sp.map .bl))) (some (.lst (ps.map dP))) (some (.lst (dueH w sp ps))) (some nh)) S' = f__law_ask [.int w, who sp nh, .lst (ps.map (·.1))] S' := fun S' => by
    have tr := sp_at (ρ := env x0 x16 (some (.int w)) (some (.lst (sp.map .bl))) (some (.lst (ps.map dP))) (some (.lst (dueH w sp ps))) (some nh)) (S := S') (f1' := eVar 18) (f2' := eC (.int ((7 : Nat) : Int))) (sp := sp) (k := 7) (var_ok rfl) c_ok l7
    have hh : eIf (eTru (e2 ixF (eVar 18) (eC (.int 7)))) (eVar 21) (eVar 4) (env x0 x16 (some (.int w)) (some (.lst (sp.map .bl))) (some (.lst (ps.map dP))) (some (.lst (dueH w sp ps))) (some nh)) S' = .ok (who sp nh) S' := by
      unfold who
      cases hb : sp.getD 7 false with
      | true => rw [hb] at tr; exact if_tt tr (var_ok rfl)
      | false => rw [hb] at tr; exact if_ff tr (var_ok rfl)
    have lm := lcD_map (g := gtName 25) (fe := e2 ixF (eVar 25) (eC (.int 0))) (ρ := env x0 x16 (some (.int w)) (some (.lst (sp.map .bl))) (some (.lst (ps.map dP))) (some (.lst (dueH w sp ps))) (some nh)) (S := S') dP (fun p => p.1) (l := ps) (acc := []) (fun p _ => ⟨_, rfl, e2_ok (x := dP p) (S1 := S') (var_ok rfl) c_ok (by simp [dP, deref_tup, deref_int, ixF, ixS, atI_0])⟩)
    rw [List.nil_append] at lm
    exact call_ok (cons_ok (var_ok rfl) (cons_ok hh (cons_ok (lc_ok (S1 := S') (seq_ok (ds := ps.map dP) (var_ok rfl)) lm) nil_ok))) rfl
  obtain ⟨u, v, t, rfl⟩ := b4
  obtain ⟨⟨d', rest', ed', hd', ee'⟩⟩ := good_all (nh := nh) (o := .lst [.lst (cells.map D.int), .int u, .int v, .int t]) hD hn w hw
  have lamE : eLam f__law_errorc (eCall f__law_ask (aCons (eVar 17) (aCons (eIf (eTru (e2 ixF (eVar 18) (eC (.int 7)))) (eVar 21) (eVar 4)) (aCons (eLc [25] (iSeq (eVar 19)) (gtName 25) eYes (e2 ixF (eVar 25) (eC (.int 0)))) aNil)))) (env x0 x16 (some (.int w)) (some (.lst (sp.map .bl))) (some (.lst (ps.map dP))) (some (.lst (dueH w sp ps))) (some nh)) (row cells u v t [hsO]) = .ok d' (row cells u v t [hsO]) := by
    have ef : (fun S' => (eCall f__law_ask (aCons (eVar 17) (aCons (eIf (eTru (e2 ixF (eVar 18) (eC (.int 7)))) (eVar 21) (eVar 4)) (aCons (eLc [25] (iSeq (eVar 19)) (gtName 25) eYes (e2 ixF (eVar 25) (eC (.int 0)))) aNil)))) (env x0 x16 (some (.int w)) (some (.lst (sp.map .bl))) (some (.lst (ps.map dP))) (some (.lst (dueH w sp ps))) (some nh)) S') = fun S' => f__law_ask [.int w, who sp nh, .lst (ps.map (·.1))] S' := funext th
    have e0 : f__law_errorc (fun S' => f__law_ask [.int w, who sp nh, .lst (ps.map (·.1))] S') (row cells u v t [hsO]) = .ok d' (row cells u v t [hsO]) := ee'
    unfold eLam
    rw [ef, e0]
  have ix0 : e2 ixF (eVar 20) (eC (.int 0)) (env x0 x16 (some (.int w)) (some (.lst (sp.map .bl))) (some (.lst (ps.map dP))) (some (.lst (dueH w sp ps))) (some nh)) (row cells u v t [hsO]) = .ok d' (row cells u v t [hsO]) := e2_ok (x := .lst (dueH w sp ps)) (y := .int 0) (S1 := row cells u v t [hsO]) (var_ok rfl) c_ok (by rw [ed', deref_lst, deref_int]; simp [ixF, ixS, atI_0])
  exact if_f (e2_ok lamE ix0 (by rw [hd'.de]; exact hd'.ne))
end
theorem law_ok (cells : List Int) : ∃ S', f_law [.lst (cells.map D.int)] [] = .ok (.bl true) S' := by
  let x0 : Option D := some (.lst (cells.map .int))
  obtain ⟨ρ', S2, e2', x16, x17, x18, x19, x20, x21, rfl, b3⟩ := forD_all (g := gtName 16) (body := turnB) (xs := dInts 0 9) (ρ := env x0 none none none none none none) (S := row cells 0 2953 0 [hsO])
    (fun _ ρ S => ∃ x16 x17 x18 x19 x20 x21, ρ = env x0 x16 x17 x18 x19 x20 x21 ∧ Row cells [hsO] S) ⟨_, _, _, _, _, _, rfl, _, _, _, rfl⟩ (by
      rintro i d ρ S hd ⟨x16, x17, x18, x19, x20, x21, rfl, hS⟩
      obtain ⟨x17', x18', x19', x20', x21', S', e, hS'⟩ := turn_ok (x0 := x0) (x16 := some d) (x17 := x17) (x18 := x18) (x19 := x19) (x20 := x20) (x21 := x21) hS
      exact ⟨_, _, S', rfl, .inl e, _, _, _, _, _, _, rfl, hS'⟩)
  obtain ⟨u, v, t, rfl⟩ := b3
  refine ⟨row cells u v t [hsO], fn_rt ?_⟩
  show b_law [x0, none, none, none, none, none, none, none, none, none, none, none, none, none, none, none, none, none, none, none, none, none, none, none, none, none] [] = _
  unfold b_law
  rw [seq_nx (new_row cells 2953 none _)]
  rw [seq_set (d := showM) (S' := row cells 0 2953 0 []) (by kernel_rfl)]
  simp only [List.set_cons_succ, List.set_cons_zero]
  rw [seq_set (d := clsD) (S' := row cells 0 2953 0 []) (by kernel_rfl)]
  simp only [List.set_cons_succ, List.set_cons_zero]
  rw [seq_set (d := .obj 1) (S' := row cells 0 2953 0 [hsO]) (by kernel_rfl)]
  simp only [List.set_cons_succ, List.set_cons_zero]
  rw [seq_set (d := dB (bad.getD 0 [])) (S' := row cells 0 2953 0 [hsO]) (by kernel_rfl)]
  simp only [List.set_cons_succ, List.set_cons_zero]
  rw [seq_set (d := dB (bad.getD 1 [])) (S' := row cells 0 2953 0 [hsO]) (by kernel_rfl)]
  simp only [List.set_cons_succ, List.set_cons_zero]
  rw [seq_set (d := dB (bad.getD 2 [])) (S' := row cells 0 2953 0 [hsO]) (by kernel_rfl)]
  simp only [List.set_cons_succ, List.set_cons_zero]
  rw [seq_set (d := dB (choB.take 3)) (S' := row cells 0 2953 0 [hsO]) (by kernel_rfl)]
  simp only [List.set_cons_succ, List.set_cons_zero]
  rw [seq_set (d := dB (choB.take 5)) (S' := row cells 0 2953 0 [hsO]) (by kernel_rfl)]
  simp only [List.set_cons_succ, List.set_cons_zero]
  rw [seq_set (d := dB (choB.take 7)) (S' := row cells 0 2953 0 [hsO]) (by kernel_rfl)]
  simp only [List.set_cons_succ, List.set_cons_zero]
  rw [seq_set (d := dB (choB.take 9)) (S' := row cells 0 2953 0 [hsO]) (by kernel_rfl)]
  simp only [List.set_cons_succ, List.set_cons_zero]
  rw [seq_set (d := dB (choB.take 12)) (S' := row cells 0 2953 0 [hsO]) (by kernel_rfl)]
  simp only [List.set_cons_succ, List.set_cons_zero]
  rw [seq_set (d := .tup nine) (S' := row cells 0 2953 0 [hsO]) (by kernel_rfl)]
  simp only [List.set_cons_succ, List.set_cons_zero]
  rw [seq_nx (ρ' := [x0, some (.obj 0), some showM, some clsD, some (.obj 1), some (dB (bad.getD 0 [])), some (dB (bad.getD 1 [])), some (dB (bad.getD 2 [])), some (dB (bad.getD 3 [])), some (.tup nine), none, none, none, none, none, none, none, none, none, none, none, none, none, none, none, none]) (S' := row cells 0 2953 0 [hsO]) (by kernel_rfl)]
  rw [seq_set (d := .lst kindB) (S' := row cells 0 2953 0 [hsO]) (by kernel_rfl)]
  simp only [List.set_cons_succ, List.set_cons_zero]
  rw [seq_set (d := dB (bad.getD 4 [])) (S' := row cells 0 2953 0 [hsO]) (by kernel_rfl)]
  simp only [List.set_cons_succ, List.set_cons_zero]
  rw [seq_set (d := dB (bad.getD 5 [])) (S' := row cells 0 2953 0 [hsO]) (by kernel_rfl)]
  simp only [List.set_cons_succ, List.set_cons_zero]
  rw [seq_set (d := dB (bad.getD 6 [])) (S' := row cells 0 2953 0 [hsO]) (by kernel_rfl)]
  simp only [List.set_cons_succ, List.set_cons_zero]
  rw [seq_set (d := badD) (S' := row cells 0 2953 0 [hsO]) (by kernel_rfl)]
  simp only [List.set_cons_succ, List.set_cons_zero]
  rw [seq_set (d := .lst good) (S' := row cells 0 2953 0 [hsO]) (by kernel_rfl)]
  simp only [List.set_cons_succ, List.set_cons_zero]
  rw [seq_set (d := .lst (places.map plD')) (S' := row cells 0 2953 0 [hsO]) (by kernel_rfl)]
  simp only [List.set_cons_succ, List.set_cons_zero]
  have it : ∀ ρ : DEnv, iRange1 (aCons (eC (.int 9)) aNil) ρ (row cells 0 2953 0 [hsO]) = .ok (dInts 0 9) (row cells 0 2953 0 [hsO]) := fun ρ => range_ok (n := 9) (cons_ok c_ok nil_ok) (by decide)
  unfold turnB at e2'
  rw [seq_nx (for_ok (S1 := row cells 0 2953 0 [hsO]) (it _) e2')]
  rw [seq_skip (S' := row cells u v t [hsO]) (by kernel_rfl)]
  exact ret_ok (by kernel_rfl)
end K53

set_option maxHeartbeats 4000000
namespace K53
open DL PySem PySem.Spec PyProof.Rows L2 H
theorem is_tuple {K : PySem.W.Frag} : IsK K [.type "tuple"] tb_tuple to_tuple := isK_ty (ns := ["tuple"]) (by decide +kernel) fun _ _ e => by cases e
theorem is_str {K : PySem.W.Frag} : IsK K [.type "str"] tb_str to_str := isK_ty (ns := ["str"]) (by decide +kernel) fun _ _ e => by cases e
theorem is_int {K : PySem.W.Frag} : IsK K [.type "int"] tb_int to_int := isK_ty (ns := ["int"]) (by decide +kernel) fun _ _ e => by cases e
theorem is_bool {K : PySem.W.Frag} : IsK K [.type "bool"] tb_bool to_bool := isK_ty (ns := ["bool"]) (by decide +kernel) fun _ _ e => by cases e
theorem sc_BadChoice : FnScope ["self", "index"] ["self", "index"] (defScope s_BadChoice) := ⟨rfl, rfl, rfl, by decide +kernel, rfl, by decide +kernel, by decide +kernel⟩
theorem xok_BadChoice {P : Program} {w : World} {K : PySem.W.Frag} {h : Heap} {mg : Str → Option Value} {base : Heap} (kx : K.In h) (G : h.Ns mainGlobals mg) (c : SaysX fa fn ts bs w K) : Xok P w K mg base "BadChoice" ["index"] := by
  obtain ⟨fd, F⟩ := c.d.def_ 61 (d := d_BadChoice) rfl
  have b : Binds K fd ["self", "index"] [] := F.bindsN fun _ _ _ _ _ _ us hl => match us, hl with | [_, _], _ => rfl
  have nd := sc_BadChoice.nd
  have nf_index := He.eqO_ok (c.d.fact 58 (f := .noat "BadChoice" "index") rfl)
  have fi := He.eqO_ok (He.ba (c.d.fact 114 (f := .meth "BadChoice" "__init__") rfl)).1
  refine ⟨⟨He.ma K (He.ga K "BadChoice") "__init__", fd, oexB_ok (c.b 105 rfl), fi, of_decide_eq_true (c.b 106 rfl), F.ok sc_BadChoice (fun vs H Q E hh => ?_) (fun cdv A outer s H vs Q E hr hh => ⟨_, PSs.nox ?_, init1 (by decide) hh (fun _ _ q => q)⟩), b⟩, ?_, He.glo_ok kx G (c.d.fact 55 (f := .glo "BadChoice") rfl)⟩
  · obtain ⟨a, xs, C, rfl, hl, _⟩ := hh; simp [hl]
  · exact (pss_one (ps_ost (pv 0) (pv 1)))
  · intro f hf
    simp only [List.mem_cons, List.not_mem_nil, or_false] at hf
    rcases hf with rfl
    · exact nf_index
theorem sc_names_of : FnScope ["classes", "told"] ["classes"] (defScope s_names_of) := ⟨rfl, rfl, rfl, by decide +kernel, rfl, by decide +kernel, by decide +kernel⟩
theorem ok_names_of {P : Program} {w : World} {K : PySem.W.Frag} {h : Heap} {mg : Str → Option Value} {base : Heap} (kx : K.In h) (G : h.Ns mainGlobals mg) (c : SaysX fa fn ts bs w K) : Fok P w K mg base "names_of" 1 ["classes"] f_names_of := by
  have g_TOP := He.str_ok kx G (c.d.fact 0 (f := .str "TOP" ("top" : Str)) rfl)
  obtain ⟨fd, F⟩ := c.d.def_ 0 (d := d_names_of) rfl
  have b : Binds K fd ["classes"] [] := F.bindsN fun _ _ _ _ _ _ us hl => match us, hl with | [_], _ => rfl
  have nd := sc_names_of.nd
  refine ⟨fd, fn_dl (k := 0) (O' := []) F sc_names_of (by decide) fun cdv A outer s H E hr => ?_, b, F.kp, He.glo_ok kx G (c.d.fact 1 (f := .glo "names_of") rfl)⟩
  have hu64 := hu_64 hr
  have hu := hu_65 hr
  have tk := takes_of (X := cxOf (L2.CX P w) P w K mg base ["classes", "told"] "names_of" (defScope s_names_of) (He.ga K "names_of") cdv A outer s H E) rfl rfl rfl rfl
  have ps := passes_of (X := cxOf (L2.CX P w) P w K mg base ["classes", "told"] "names_of" (defScope s_names_of) (He.ga K "names_of") cdv A outer s H E) rfl
  exact (dss_one (ds_ret (DE.toE (de_lst (da_cons (de_gstr g_TOP) (da_star (de_lc nd (blkOk_by (own := [(("told" : Str), 1)]) (by kernel_rfl)) (di_seq (dv 0)) (gok_name 1) (fun _ _ _ _ _ => ((dg_name (O := []) 1 nd)).pg) town_name (fun _ _ _ _ _ => dcs_nil) (fun _ _ _ _ _ => (de_sub hu64 (dv 1) de_int))) da_nil))))))
theorem sc_is_list : FnScope ["value", "most"] ["value", "most"] (defScope s_is_list) := ⟨rfl, rfl, rfl, by decide +kernel, rfl, by decide +kernel, by decide +kernel⟩
theorem ok_is_list {P : Program} {w : World} {K : PySem.W.Frag} {h : Heap} {mg : Str → Option Value} {base : Heap} (kx : K.In h) (G : h.Ns mainGlobals mg) (c : SaysX fa fn ts bs w K) : Fok P w K mg base "is_list" 1 ["value", "most"] f_is_list := by
  have h_isinstance := He.free_ok kx G (c.d.fact 2 (f := .free "isinstance") rfl)
  have h_tuple := He.free_ok kx G (c.d.fact 3 (f := .free "tuple") rfl)
  have h_len := He.free_ok kx G (c.d.fact 4 (f := .free "len") rfl)
  obtain ⟨fd, F⟩ := c.d.def_ 1 (d := d_is_list) rfl
  have b : Binds K fd ["value", "most"] [] := F.bindsN fun _ _ _ _ _ _ us hl => match us, hl with | [_, _], _ => rfl
  have nd := sc_is_list.nd
  refine ⟨fd, fn_dl (k := 0) (O' := []) F sc_is_list (by decide) fun cdv A outer s H E hr => ?_, b, F.kp, He.glo_ok kx G (c.d.fact 5 (f := .glo "is_list") rfl)⟩
  have hu64 := hu_64 hr
  have hu := hu_65 hr
  have tk := takes_of (X := cxOf (L2.CX P w) P w K mg base ["value", "most"] "is_list" (defScope s_is_list) (He.ga K "is_list") cdv A outer s H E) rfl rfl rfl rfl
  have ps := passes_of (X := cxOf (L2.CX P w) P w K mg base ["value", "most"] "is_list" (defScope s_is_list) (He.ga K "is_list") cdv A outer s H E) rfl
  exact (dss_one (ds_ret (de_and (de_isi (is_tuple) (dv 0) (pe_bltn (by rfl) h_tuple (by rfl) (by rfl)) (.ty _) h_isinstance) (de_one (de_cmp (op_led) (de_callB cr_len (by rfl) h_len (dab_cons (dv 0) dab_nil)) (dv 1))))))
theorem sc_is_word : FnScope ["value", "sign"] ["value"] (defScope s_is_word) := ⟨rfl, rfl, rfl, by decide +kernel, rfl, by decide +kernel, by decide +kernel⟩
theorem ok_is_word {P : Program} {w : World} {K : PySem.W.Frag} {h : Heap} {mg : Str → Option Value} {base : Heap} (kx : K.In h) (G : h.Ns mainGlobals mg) (c : SaysX fa fn ts bs w K) : Fok P w K mg base "is_word" 1 ["value"] f_is_word := by
  have h_isinstance := He.free_ok kx G (c.d.fact 2 (f := .free "isinstance") rfl)
  have h_str := He.free_ok kx G (c.d.fact 6 (f := .free "str") rfl)
  have h_len := He.free_ok kx G (c.d.fact 4 (f := .free "len") rfl)
  have h_all := He.free_ok kx G (c.d.fact 7 (f := .free "all") rfl)
  have g_LETTERS := He.str_ok kx G (c.d.fact 8 (f := .str "LETTERS" ("abcdefghijklmnopqrstuvwxyz" : Str)) rfl)
  obtain ⟨fd, F⟩ := c.d.def_ 2 (d := d_is_word) rfl
  have b : Binds K fd ["value"] [] := F.bindsN fun _ _ _ _ _ _ us hl => match us, hl with | [_], _ => rfl
  have nd := sc_is_word.nd
  refine ⟨fd, fn_dl (k := 0) (O' := []) F sc_is_word (by decide) fun cdv A outer s H E hr => ?_, b, F.kp, He.glo_ok kx G (c.d.fact 9 (f := .glo "is_word") rfl)⟩
  have hu64 := hu_64 hr
  have hu := hu_65 hr
  have tk := takes_of (X := cxOf (L2.CX P w) P w K mg base ["value", "sign"] "is_word" (defScope s_is_word) (He.ga K "is_word") cdv A outer s H E) rfl rfl rfl rfl
  have ps := passes_of (X := cxOf (L2.CX P w) P w K mg base ["value", "sign"] "is_word" (defScope s_is_word) (He.ga K "is_word") cdv A outer s H E) rfl
  exact (dss_one (ds_ret (de_and (de_isi (is_str) (dv 0) (pe_bltn (by rfl) h_str (by rfl) (by rfl)) (.ty _) h_isinstance) (de_and (de_chain (op_led) (op_led) de_int (de_callB cr_len (by rfl) h_len (dab_cons (dv 0) dab_nil)) de_int) (de_one (de_callB (cr_allD rfl) (by rfl) h_all (dab_cons (de_lc nd (blkOk_by (own := [(("sign" : Str), 1)]) (by kernel_rfl)) (di_str (dv 0)) (gok_name 1) (fun _ _ _ _ _ => ((dg_name (O := []) 1 nd)).pg) town_name (fun _ _ _ _ _ => dcs_nil) (fun _ _ _ _ _ => (de_cmp (op_sign) (dv 1) (de_gstr g_LETTERS)))) dab_nil)))))))
theorem sc_is_class : FnScope ["classes", "value"] ["classes", "value"] (defScope s_is_class) := ⟨rfl, rfl, rfl, by decide +kernel, rfl, by decide +kernel, by decide +kernel⟩
theorem ok_is_class {P : Program} {w : World} {K : PySem.W.Frag} {h : Heap} {mg : Str → Option Value} {base : Heap} (kx : K.In h) (G : h.Ns mainGlobals mg) (c : SaysX fa fn ts bs w K) : Fok P w K mg base "is_class" 2 ["classes", "value"] f_is_class := by
  have o_is_word := ok_is_word (P := P) (w := w) (base := base) kx G c
  have o_names_of := ok_names_of (P := P) (w := w) (base := base) kx G c
  have h_isinstance := He.free_ok kx G (c.d.fact 2 (f := .free "isinstance") rfl)
  have h_tuple := He.free_ok kx G (c.d.fact 3 (f := .free "tuple") rfl)
  have h_len := He.free_ok kx G (c.d.fact 4 (f := .free "len") rfl)
  have g_BARRED := He.glo_ok kx G (c.d.fact 10 (f := .glo "BARRED") rfl)
  have gt_BARRED := c.b 0 rfl
  obtain ⟨fd, F⟩ := c.d.def_ 3 (d := d_is_class) rfl
  have b : Binds K fd ["classes", "value"] [] := F.bindsN fun _ _ _ _ _ _ us hl => match us, hl with | [_, _], _ => rfl
  have nd := sc_is_class.nd
  refine ⟨fd, fn_dl (k := 1) (O' := []) F sc_is_class (by decide) fun cdv A outer s H E hr => ?_, b, F.kp, He.glo_ok kx G (c.d.fact 11 (f := .glo "is_class") rfl)⟩
  have hu64 := hu_64 hr
  have hu := hu_65 hr
  have tk := takes_of (X := cxOf (L2.CX P w) P w K mg base ["classes", "value"] "is_class" (defScope s_is_class) (He.ga K "is_class") cdv A outer s H E) rfl rfl rfl rfl
  have ps := passes_of (X := cxOf (L2.CX P w) P w K mg base ["classes", "value"] "is_class" (defScope s_is_class) (He.ga K "is_class") cdv A outer s H E) rfl
  exact (dss_cons (ds_if (O' := []) (dt_bool (dw_or (dt_not (dt_val (de_isi (is_tuple) (dv 1) (pe_bltn (by rfl) h_tuple (by rfl) (by rfl)) (.ty _) h_isinstance))) (dw_or (dt_cmp (op_ned hu64) (de_callB cr_len (by rfl) h_len (dab_cons (dv 1) dab_nil)) de_int) (dw_or1 (dt_not (dt_val (de_fn o_is_word (hr.mono (by decide)) tk (da_cons (de_sub hu64 (dv 1) de_int) da_nil) (aCons_len aNil_len)))))))) (dss_one (ds_ret de_bl)) dss_nil)
  (dss_cons (ds_if (O' := []) (dt_bool (dw_or (dt_cmp (op_ind hu) (de_sub hu64 (dv 1) de_int) (de_gtup (ts := [.str ("top" : Str), .str ("num" : Str), .str ("none" : Str), .str ("odd" : Str), .str ("unset" : Str)]) g_BARRED gt_BARRED)) (dw_or1 (dt_cmp (op_ind hu) (de_sub hu64 (dv 1) de_int) (de_fn o_names_of (hr.mono (by decide)) tk (da_cons (dv 0) da_nil) (aCons_len aNil_len)))))) (dss_one (ds_ret de_bl)) dss_nil)
  (dss_one (ds_ret (de_and (de_fn o_is_word (hr.mono (by decide)) tk (da_cons (de_sub hu64 (dv 1) de_int) da_nil) (aCons_len aNil_len)) (de_one (de_cmp (op_ind hu) (de_sub hu64 (dv 1) de_int) (de_fn o_names_of (hr.mono (by decide)) tk (da_cons (dv 0) da_nil) (aCons_len aNil_len)))))))))
theorem sc_row_of : FnScope ["classes", "name", "found", "told"] ["classes", "name"] (defScope s_row_of) := ⟨rfl, rfl, rfl, by decide +kernel, rfl, by decide +kernel, by decide +kernel⟩
theorem ok_row_of {P : Program} {w : World} {K : PySem.W.Frag} {h : Heap} {mg : Str → Option Value} {base : Heap} (kx : K.In h) (G : h.Ns mainGlobals mg) (c : SaysX fa fn ts bs w K) : Fok P w K mg base "row_of" 1 ["classes", "name"] f_row_of := by
  obtain ⟨fd, F⟩ := c.d.def_ 4 (d := d_row_of) rfl
  have b : Binds K fd ["classes", "name"] [] := F.bindsN fun _ _ _ _ _ _ us hl => match us, hl with | [_, _], _ => rfl
  have nd := sc_row_of.nd
  refine ⟨fd, fn_dl (k := 0) (O' := []) F sc_row_of (by decide) fun cdv A outer s H E hr => ?_, b, F.kp, He.glo_ok kx G (c.d.fact 12 (f := .glo "row_of") rfl)⟩
  have hu64 := hu_64 hr
  have hu := hu_65 hr
  have tk := takes_of (X := cxOf (L2.CX P w) P w K mg base ["classes", "name", "found", "told"] "row_of" (defScope s_row_of) (He.ga K "row_of") cdv A outer s H E) rfl rfl rfl rfl
  have ps := passes_of (X := cxOf (L2.CX P w) P w K mg base ["classes", "name", "found", "told"] "row_of" (defScope s_row_of) (He.ga K "row_of") cdv A outer s H E) rfl
  exact (dss_cons (ds_own 2 (de_lst da_nil) nd)
  (dss_cons (ds_for ps (di_seq (de_revA (dv 0))) (dg_name 3 nd) (dss_one (ds_if (O' := [2]) (dt_cmp (op_eqd hu64) (de_sub hu64 (dv 3) de_int) (dv 1)) (dss_cons (ds_app 2 (dv 3))
  (dss_one (ds_set 1 (de_sub hu64 (dv 3) de_int) nd))) dss_nil)))
  (dss_one (DS.pre (O1 := []) (ds_ret (dv 2))))))
theorem sc_are_fields : FnScope ["classes", "names", "told", "seen", "field", "upper"] ["classes", "names", "told"] (defScope s_are_fields) := ⟨rfl, rfl, rfl, by decide +kernel, rfl, by decide +kernel, by decide +kernel⟩
theorem ok_are_fields {P : Program} {w : World} {K : PySem.W.Frag} {h : Heap} {mg : Str → Option Value} {base : Heap} (kx : K.In h) (G : h.Ns mainGlobals mg) (c : SaysX fa fn ts bs w K) : Fok P w K mg base "are_fields" 2 ["classes", "names", "told"] f_are_fields := by
  have o_is_list := ok_is_list (P := P) (w := w) (base := base) kx G c
  have o_row_of := ok_row_of (P := P) (w := w) (base := base) kx G c
  have o_is_word := ok_is_word (P := P) (w := w) (base := base) kx G c
  have h_isinstance := He.free_ok kx G (c.d.fact 2 (f := .free "isinstance") rfl)
  have h_tuple := He.free_ok kx G (c.d.fact 3 (f := .free "tuple") rfl)
  have h_len := He.free_ok kx G (c.d.fact 4 (f := .free "len") rfl)
  have g_NUM := He.str_ok kx G (c.d.fact 13 (f := .str "NUM" ("num" : Str)) rfl)
  have g_MOST_PARTS := He.int_ok kx G (c.d.fact 14 (f := .int "MOST_PARTS" 4) rfl)
  obtain ⟨fd, F⟩ := c.d.def_ 5 (d := d_are_fields) rfl
  have b : Binds K fd ["classes", "names", "told"] [] := F.bindsN fun _ _ _ _ _ _ us hl => match us, hl with | [_, _, _], _ => rfl
  have nd := sc_are_fields.nd
  refine ⟨fd, fn_dl (k := 1) (O' := []) F sc_are_fields (by decide) fun cdv A outer s H E hr => ?_, b, F.kp, He.glo_ok kx G (c.d.fact 15 (f := .glo "are_fields") rfl)⟩
  have hu64 := hu_64 hr
  have hu := hu_65 hr
  have tk := takes_of (X := cxOf (L2.CX P w) P w K mg base ["classes", "names", "told", "seen", "field", "upper"] "are_fields" (defScope s_are_fields) (He.ga K "are_fields") cdv A outer s H E) rfl rfl rfl rfl
  have ps := passes_of (X := cxOf (L2.CX P w) P w K mg base ["classes", "names", "told", "seen", "field", "upper"] "are_fields" (defScope s_are_fields) (He.ga K "are_fields") cdv A outer s H E) rfl
  exact (dss_cons (ds_if (O' := []) (dt_not (dt_val (de_fn o_is_list (hr.mono (by decide)) tk (da_cons (de_sub hu64 (dv 2) de_int) (da_cons (de_gint g_MOST_PARTS) da_nil)) (aCons_len (aCons_len aNil_len))))) (dss_one (ds_ret de_bl)) dss_nil)
  (dss_cons (ds_lc2Own 3 nd (blkOk_by (own := [(("upper" : Str), 5), (("field" : Str), 4)]) (by kernel_rfl)) (vs1 := [4]) (by decide) (di_seq (de_fn o_row_of (hr.mono (by decide)) tk (da_cons (dv 0) (da_cons (de_sub hu64 (dv 2) de_int) da_nil)) (aCons_len (aCons_len aNil_len)))) (gok_name 5) (fun _ _ _ _ _ => ((dg_name (O := []) 5 nd)).pg) town_name (fun _ _ _ _ _ => dcs_nil) (fun _ _ _ _ _ => (di_seq (de_sub hu64 (dv 5) de_int))) (gok_name 4) (fun _ _ _ _ _ => ((dg_name (O := []) 4 nd)).pg) town_name (fun _ _ _ _ _ => dcs_nil) (fun _ _ _ _ _ => (de_sub hu64 (dv 4) de_int)) (by rfl))
  (dss_cons (ds_for ps (di_seq (de_sub hu64 (dv 2) de_int)) (dg_name 4 nd) (dss_cons (ds_if (O' := [3]) (dt_bool (dw_or (dt_not (dt_val (de_isi (is_tuple) (dv 4) (pe_bltn (by rfl) h_tuple (by rfl) (by rfl)) (.ty _) h_isinstance))) (dw_or (dt_cmp (op_ned hu64) (de_callB cr_len (by rfl) h_len (dab_cons (dv 4) dab_nil)) de_int) (dw_or (dt_not (dt_val (de_fn o_is_word (hr.mono (by decide)) tk (da_cons (de_sub hu64 (dv 4) de_int) da_nil) (aCons_len aNil_len)))) (dw_or1 (dt_cmp (op_ind hu) (de_sub hu64 (dv 4) de_int) (dvb 3))))))) (dss_one (ds_ret de_bl)) dss_nil)
  (dss_cons (ds_if (O' := [3]) (dt_bool (dw_or (dt_not (dt_val (de_fn o_is_word (hr.mono (by decide)) tk (da_cons (de_sub hu64 (dv 4) de_int) da_nil) (aCons_len aNil_len)))) (dw_or1 (dt_bool (dw_and (dt_cmp (op_ned hu64) (de_sub hu64 (dv 4) de_int) (de_gstr g_NUM)) (dw_and1 (dt_cmp (op_notInd hu) (de_sub hu64 (dv 4) de_int) (dv 1)))))))) (dss_one (ds_ret de_bl)) dss_nil)
  (dss_one (ds_app 3 (de_sub hu64 (dv 4) de_int))))))
  (dss_one (ds_ret de_bl)))))
theorem sc_has_seen : FnScope ["classes", "name", "word", "part", "told", "one"] ["classes", "name", "word", "part"] (defScope s_has_seen) := ⟨rfl, rfl, rfl, by decide +kernel, rfl, by decide +kernel, by decide +kernel⟩
theorem ok_has_seen {P : Program} {w : World} {K : PySem.W.Frag} {h : Heap} {mg : Str → Option Value} {base : Heap} (kx : K.In h) (G : h.Ns mainGlobals mg) (c : SaysX fa fn ts bs w K) : Fok P w K mg base "has_seen" 2 ["classes", "name", "word", "part"] f_has_seen := by
  have o_row_of := ok_row_of (P := P) (w := w) (base := base) kx G c
  have h_any := He.free_ok kx G (c.d.fact 16 (f := .free "any") rfl)
  obtain ⟨fd, F⟩ := c.d.def_ 6 (d := d_has_seen) rfl
  have b : Binds K fd ["classes", "name", "word", "part"] [] := F.bindsN fun _ _ _ _ _ _ us hl => match us, hl with | [_, _, _, _], _ => rfl
  have nd := sc_has_seen.nd
  refine ⟨fd, fn_dl (k := 1) (O' := []) F sc_has_seen (by decide) fun cdv A outer s H E hr => ?_, b, F.kp, He.glo_ok kx G (c.d.fact 17 (f := .glo "has_seen") rfl)⟩
  have hu64 := hu_64 hr
  have hu := hu_65 hr
  have tk := takes_of (X := cxOf (L2.CX P w) P w K mg base ["classes", "name", "word", "part", "told", "one"] "has_seen" (defScope s_has_seen) (He.ga K "has_seen") cdv A outer s H E) rfl rfl rfl rfl
  have ps := passes_of (X := cxOf (L2.CX P w) P w K mg base ["classes", "name", "word", "part", "told", "one"] "has_seen" (defScope s_has_seen) (He.ga K "has_seen") cdv A outer s H E) rfl
  exact (dss_one (ds_ret (de_callB (cr_anyD rfl) (by rfl) h_any (dab_cons (de_lc2 nd (blkOk_by (own := [(("told" : Str), 4), (("one" : Str), 5)]) (by kernel_rfl)) (vs1 := [5]) (by decide) (di_seq (de_fn o_row_of (hr.mono (by decide)) tk (da_cons (dv 0) (da_cons (dv 1) da_nil)) (aCons_len (aCons_len aNil_len)))) (gok_name 4) (fun _ _ _ _ _ => ((dg_name (O := []) 4 nd)).pg) town_name (fun _ _ _ _ _ => dcs_nil) (fun _ _ _ _ _ => (di_seq (de_sub hu64 (dv 4) (dv 3)))) (gok_name 5) (fun _ _ _ _ _ => ((dg_name (O := []) 5 nd)).pg) town_name (fun _ _ _ _ _ => dcs_nil) (fun _ _ _ _ _ => (de_cmp (op_eqd hu64) (de_sub hu64 (dv 5) de_int) (dv 2)))) dab_nil))))
theorem sc_is_in : FnScope ["value", "least", "most"] ["value", "least", "most"] (defScope s_is_in) := ⟨rfl, rfl, rfl, by decide +kernel, rfl, by decide +kernel, by decide +kernel⟩
theorem ok_is_in {P : Program} {w : World} {K : PySem.W.Frag} {h : Heap} {mg : Str → Option Value} {base : Heap} (kx : K.In h) (G : h.Ns mainGlobals mg) (c : SaysX fa fn ts bs w K) : Fok P w K mg base "is_in" 1 ["value", "least", "most"] f_is_in := by
  have h_isinstance := He.free_ok kx G (c.d.fact 2 (f := .free "isinstance") rfl)
  have h_int := He.free_ok kx G (c.d.fact 18 (f := .free "int") rfl)
  have h_bool := He.free_ok kx G (c.d.fact 19 (f := .free "bool") rfl)
  obtain ⟨fd, F⟩ := c.d.def_ 7 (d := d_is_in) rfl
  have b : Binds K fd ["value", "least", "most"] [] := F.bindsN fun _ _ _ _ _ _ us hl => match us, hl with | [_, _, _], _ => rfl
  have nd := sc_is_in.nd
  refine ⟨fd, fn_dl (k := 0) (O' := []) F sc_is_in (by decide) fun cdv A outer s H E hr => ?_, b, F.kp, He.glo_ok kx G (c.d.fact 20 (f := .glo "is_in") rfl)⟩
  have hu64 := hu_64 hr
  have hu := hu_65 hr
  have tk := takes_of (X := cxOf (L2.CX P w) P w K mg base ["value", "least", "most"] "is_in" (defScope s_is_in) (He.ga K "is_in") cdv A outer s H E) rfl rfl rfl rfl
  have ps := passes_of (X := cxOf (L2.CX P w) P w K mg base ["value", "least", "most"] "is_in" (defScope s_is_in) (He.ga K "is_in") cdv A outer s H E) rfl
  exact (dss_one (ds_ret (de_and (de_isi (is_int) (dv 0) (pe_bltn (by rfl) h_int (by rfl) (by rfl)) (.ty _) h_isinstance) (de_and (de_not (de_isi (is_bool) (dv 0) (pe_bltn (by rfl) h_bool (by rfl) (by rfl)) (.ty _) h_isinstance)) (de_one (de_chain (op_led) (op_led) (dv 1) (dv 0) (dv 2)))))))
theorem sc_is_step : FnScope ["classes", "code", "at", "step", "spans", "parts"] ["classes", "code", "at"] (defScope s_is_step) := ⟨rfl, rfl, rfl, by decide +kernel, rfl, by decide +kernel, by decide +kernel⟩
theorem ok_is_step {P : Program} {w : World} {K : PySem.W.Frag} {h : Heap} {mg : Str → Option Value} {base : Heap} (kx : K.In h) (G : h.Ns mainGlobals mg) (c : SaysX fa fn ts bs w K) : Fok P w K mg base "is_step" 3 ["classes", "code", "at"] f_is_step := by
  have o_is_in := ok_is_in (P := P) (w := w) (base := base) kx G c
  have o_is_word := ok_is_word (P := P) (w := w) (base := base) kx G c
  have o_names_of := ok_names_of (P := P) (w := w) (base := base) kx G c
  have o_has_seen := ok_has_seen (P := P) (w := w) (base := base) kx G c
  have h_isinstance := He.free_ok kx G (c.d.fact 2 (f := .free "isinstance") rfl)
  have h_tuple := He.free_ok kx G (c.d.fact 3 (f := .free "tuple") rfl)
  have h_str := He.free_ok kx G (c.d.fact 6 (f := .free "str") rfl)
  have h_len := He.free_ok kx G (c.d.fact 4 (f := .free "len") rfl)
  have g_LOCALS := He.int_ok kx G (c.d.fact 21 (f := .int "LOCALS" 4) rfl)
  have g_ENDS := He.glo_ok kx G (c.d.fact 22 (f := .glo "ENDS") rfl)
  have gt_ENDS := c.b 1 rfl
  have g_BARE := He.glo_ok kx G (c.d.fact 23 (f := .glo "BARE") rfl)
  have gt_BARE := c.b 2 rfl
  obtain ⟨fd, F⟩ := c.d.def_ 8 (d := d_is_step) rfl
  have b : Binds K fd ["classes", "code", "at"] [] := F.bindsN fun _ _ _ _ _ _ us hl => match us, hl with | [_, _, _], _ => rfl
  have nd := sc_is_step.nd
  refine ⟨fd, fn_dl (k := 2) (O' := []) F sc_is_step (by decide) fun cdv A outer s H E hr => ?_, b, F.kp, He.glo_ok kx G (c.d.fact 24 (f := .glo "is_step") rfl)⟩
  have hu64 := hu_64 hr
  have hu := hu_65 hr
  have tk := takes_of (X := cxOf (L2.CX P w) P w K mg base ["classes", "code", "at", "step", "spans", "parts"] "is_step" (defScope s_is_step) (He.ga K "is_step") cdv A outer s H E) rfl rfl rfl rfl
  have ps := passes_of (X := cxOf (L2.CX P w) P w K mg base ["classes", "code", "at", "step", "spans", "parts"] "is_step" (defScope s_is_step) (He.ga K "is_step") cdv A outer s H E) rfl
  exact (dss_cons (ds_set 3 (de_sub hu64 (dv 1) (dv 2)) nd)
  (dss_cons (ds_if (O' := []) (dt_bool (dw_or (dt_not (dt_val (de_isi (is_tuple) (dv 3) (pe_bltn (by rfl) h_tuple (by rfl) (by rfl)) (.ty _) h_isinstance))) (dw_or (dt_cmp (op_eqe hu64) (dv 3) (de_tup da_nil)) (dw_or1 (dt_not (dt_val (de_isi (is_str) (de_sub hu64 (dv 3) de_int) (pe_bltn (by rfl) h_str (by rfl) (by rfl)) (.ty _) h_isinstance))))))) (dss_one (ds_ret de_bl)) dss_nil)
  (dss_cons (ds_if (O' := []) (dt_bool (dw_and (dt_cmp (op_eqd hu64) (dv 2) (de_bin op_subd (de_callB cr_len (by rfl) h_len (dab_cons (dv 1) dab_nil)) de_int)) (dw_and1 (dt_cmp (op_notInd hu) (de_sub hu64 (dv 3) de_int) (de_gtup (ts := [.str ("give" : Str), .str ("go" : Str), .str ("throw" : Str)]) g_ENDS gt_ENDS))))) (dss_one (ds_ret de_bl)) dss_nil)
  (dss_cons (ds_if (O' := []) (dt_cmp (op_eqd hu64) (de_callB cr_len (by rfl) h_len (dab_cons (dv 3) dab_nil)) de_int) (dss_one (ds_ret (de_cmp (op_ind hu) (de_sub hu64 (dv 3) de_int) (de_gtup (ts := [.str ("none" : Str), .str ("add" : Str), .str ("less" : Str), .str ("same" : Str), .str ("give" : Str), .str ("throw" : Str), .str ("enter" : Str), .str ("leave" : Str), .str ("copy" : Str), .str ("drop" : Str), .str ("print" : Str)]) g_BARE gt_BARE)))) dss_nil)
  (dss_cons (ds_if (O' := []) (dt_cmp (op_eqd hu64) (de_callB cr_len (by rfl) h_len (dab_cons (dv 3) dab_nil)) de_int) (dss_cons (ds_set 4 (DE.toE (de_disp (dps_cons de_str de_int (dps_cons de_str (de_bin op_subd (de_gint g_LOCALS) de_int) (dps_cons de_str (de_bin op_subd (de_gint g_LOCALS) de_int) (dps_cons de_str (de_bin op_subd (de_callB cr_len (by rfl) h_len (dab_cons (dv 1) dab_nil)) de_int) (dps_cons de_str (de_bin op_subd (de_callB cr_len (by rfl) h_len (dab_cons (dv 1) dab_nil)) de_int) dps_nil))))))) nd)
  (dss_cons (ds_if (O' := []) (dt_cmp (op_ind hu) (de_sub hu64 (dv 3) de_int) (dv 4)) (dss_one (ds_ret (de_fn o_is_in (hr.mono (by decide)) tk (da_cons (de_sub hu64 (dv 3) de_int) (da_cons de_int (da_cons (de_sub hu64 (dv 4) (de_sub hu64 (dv 3) de_int)) da_nil))) (aCons_len (aCons_len (aCons_len aNil_len)))))) dss_nil)
  (dss_one (ds_ret (de_and (de_cmp (op_ind hu) (de_sub hu64 (dv 3) de_int) (de_tup (da_cons de_str (da_cons de_str (da_cons de_str da_nil))))) (de_and (de_fn o_is_word (hr.mono (by decide)) tk (da_cons (de_sub hu64 (dv 3) de_int) da_nil) (aCons_len aNil_len)) (de_one (de_cmp (op_ind hu) (de_sub hu64 (dv 3) de_int) (de_fn o_names_of (hr.mono (by decide)) tk (da_cons (dv 0) da_nil) (aCons_len aNil_len)))))))))) dss_nil)
  (dss_cons (ds_if (O' := []) (dt_bool (dw_or (dt_cmp (op_ned hu64) (de_callB cr_len (by rfl) h_len (dab_cons (dv 3) dab_nil)) de_int) (dw_or (dt_not (dt_val (de_fn o_is_word (hr.mono (by decide)) tk (da_cons (de_sub hu64 (dv 3) de_int) da_nil) (aCons_len aNil_len)))) (dw_or1 (dt_not (dt_val (de_fn o_is_word (hr.mono (by decide)) tk (da_cons (de_sub hu64 (dv 3) de_int) da_nil) (aCons_len aNil_len)))))))) (dss_one (ds_ret de_bl)) dss_nil)
  (dss_cons (ds_set 5 (DE.toE (de_disp (dps_cons de_str de_int (dps_cons de_str de_int (dps_cons de_str de_int dps_nil))))) nd)
  (dss_one (ds_ret (de_and (de_cmp (op_ind hu) (de_sub hu64 (dv 3) de_int) (dv 5)) (de_one (de_fn o_has_seen (hr.mono (by decide)) tk (da_cons (dv 0) (da_cons (de_sub hu64 (dv 3) de_int) (da_cons (de_sub hu64 (dv 3) de_int) (da_cons (de_sub hu64 (dv 5) (de_sub hu64 (dv 3) de_int)) da_nil)))) (aCons_len (aCons_len (aCons_len (aCons_len aNil_len))))))))))))))))
theorem sc_is_handler : FnScope ["classes", "code", "value"] ["classes", "code", "value"] (defScope s_is_handler) := ⟨rfl, rfl, rfl, by decide +kernel, rfl, by decide +kernel, by decide +kernel⟩
theorem ok_is_handler {P : Program} {w : World} {K : PySem.W.Frag} {h : Heap} {mg : Str → Option Value} {base : Heap} (kx : K.In h) (G : h.Ns mainGlobals mg) (c : SaysX fa fn ts bs w K) : Fok P w K mg base "is_handler" 2 ["classes", "code", "value"] f_is_handler := by
  have o_is_in := ok_is_in (P := P) (w := w) (base := base) kx G c
  have o_is_word := ok_is_word (P := P) (w := w) (base := base) kx G c
  have o_names_of := ok_names_of (P := P) (w := w) (base := base) kx G c
  have h_isinstance := He.free_ok kx G (c.d.fact 2 (f := .free "isinstance") rfl)
  have h_tuple := He.free_ok kx G (c.d.fact 3 (f := .free "tuple") rfl)
  have h_len := He.free_ok kx G (c.d.fact 4 (f := .free "len") rfl)
  obtain ⟨fd, F⟩ := c.d.def_ 9 (d := d_is_handler) rfl
  have b : Binds K fd ["classes", "code", "value"] [] := F.bindsN fun _ _ _ _ _ _ us hl => match us, hl with | [_, _, _], _ => rfl
  have nd := sc_is_handler.nd
  refine ⟨fd, fn_dl (k := 1) (O' := []) F sc_is_handler (by decide) fun cdv A outer s H E hr => ?_, b, F.kp, He.glo_ok kx G (c.d.fact 25 (f := .glo "is_handler") rfl)⟩
  have hu64 := hu_64 hr
  have hu := hu_65 hr
  have tk := takes_of (X := cxOf (L2.CX P w) P w K mg base ["classes", "code", "value"] "is_handler" (defScope s_is_handler) (He.ga K "is_handler") cdv A outer s H E) rfl rfl rfl rfl
  have ps := passes_of (X := cxOf (L2.CX P w) P w K mg base ["classes", "code", "value"] "is_handler" (defScope s_is_handler) (He.ga K "is_handler") cdv A outer s H E) rfl
  exact (dss_cons (ds_if (O' := []) (dt_bool (dw_or (dt_not (dt_val (de_isi (is_tuple) (dv 2) (pe_bltn (by rfl) h_tuple (by rfl) (by rfl)) (.ty _) h_isinstance))) (dw_or (dt_cmp (op_ned hu64) (de_callB cr_len (by rfl) h_len (dab_cons (dv 2) dab_nil)) de_int) (dw_or1 (dt_not (dt_val (de_fn o_is_in (hr.mono (by decide)) tk (da_cons (de_sub hu64 (dv 2) de_int) (da_cons de_int (da_cons (de_bin op_subd (de_callB cr_len (by rfl) h_len (dab_cons (dv 1) dab_nil)) de_int) da_nil))) (aCons_len (aCons_len (aCons_len aNil_len)))))))))) (dss_one (ds_ret de_bl)) dss_nil)
  (dss_cons (ds_if (O' := []) (dt_bool (dw_or (dt_not (dt_val (de_fn o_is_in (hr.mono (by decide)) tk (da_cons (de_sub hu64 (dv 2) de_int) (da_cons (de_bin op_addd (de_sub hu64 (dv 2) de_int) de_int) (da_cons (de_callB cr_len (by rfl) h_len (dab_cons (dv 1) dab_nil)) da_nil))) (aCons_len (aCons_len (aCons_len aNil_len)))))) (dw_or (dt_not (dt_val (de_fn o_is_word (hr.mono (by decide)) tk (da_cons (de_sub hu64 (dv 2) de_int) da_nil) (aCons_len aNil_len)))) (dw_or1 (dt_cmp (op_notInd hu) (de_sub hu64 (dv 2) de_int) (de_fn o_names_of (hr.mono (by decide)) tk (da_cons (dv 0) da_nil) (aCons_len aNil_len))))))) (dss_one (ds_ret de_bl)) dss_nil)
  (dss_one (ds_ret (de_fn o_is_in (hr.mono (by decide)) tk (da_cons (de_sub hu64 (dv 2) de_int) (da_cons de_int (da_cons (de_bin op_subd (de_callB cr_len (by rfl) h_len (dab_cons (dv 1) dab_nil)) de_int) da_nil))) (aCons_len (aCons_len (aCons_len aNil_len))))))))
theorem sc_check_code : FnScope ["classes", "index", "place", "method", "code", "step", "row", "handler"] ["classes", "index", "place", "method"] (defScope s_check_code) := ⟨rfl, rfl, rfl, by decide +kernel, rfl, by decide +kernel, by decide +kernel⟩
theorem ok_check_code {P : Program} {w : World} {K : PySem.W.Frag} {h : Heap} {mg : Str → Option Value} {base : Heap} (kx : K.In h) (G : h.Ns mainGlobals mg) (c : SaysX fa fn ts bs w K) : Fok P w K mg base "check_code" 4 ["classes", "index", "place", "method"] f_check_code := by
  have o_is_list := ok_is_list (P := P) (w := w) (base := base) kx G c
  have o_is_step := ok_is_step (P := P) (w := w) (base := base) kx G c
  have o_is_handler := ok_is_handler (P := P) (w := w) (base := base) kx G c
  have h_range := He.free_ok kx G (c.d.fact 26 (f := .free "range") rfl)
  have h_len := He.free_ok kx G (c.d.fact 4 (f := .free "len") rfl)
  have h_enumerate := He.free_ok kx G (c.d.fact 27 (f := .free "enumerate") rfl)
  have g_MOST_STEPS := He.int_ok kx G (c.d.fact 28 (f := .int "MOST_STEPS" 20) rfl)
  have g_MOST_PARTS := He.int_ok kx G (c.d.fact 14 (f := .int "MOST_PARTS" 4) rfl)
  obtain ⟨fd, F⟩ := c.d.def_ 10 (d := d_check_code) rfl
  have b : Binds K fd ["classes", "index", "place", "method"] [] := F.bindsN fun _ _ _ _ _ _ us hl => match us, hl with | [_, _, _, _], _ => rfl
  have nd := sc_check_code.nd
  refine ⟨fd, fn_dl (k := 3) (O' := []) F sc_check_code (by decide) fun cdv A outer s H E hr => ?_, b, F.kp, He.glo_ok kx G (c.d.fact 29 (f := .glo "check_code") rfl)⟩
  have hu64 := hu_64 hr
  have hu := hu_65 hr
  have tk := takes_of (X := cxOf (L2.CX P w) P w K mg base ["classes", "index", "place", "method", "code", "step", "row", "handler"] "check_code" (defScope s_check_code) (He.ga K "check_code") cdv A outer s H E) rfl rfl rfl rfl
  have ps := passes_of (X := cxOf (L2.CX P w) P w K mg base ["classes", "index", "place", "method", "code", "step", "row", "handler"] "check_code" (defScope s_check_code) (He.ga K "check_code") cdv A outer s H E) rfl
  exact (dss_cons (ds_set 4 (de_sub hu64 (dv 3) de_int) nd)
  (dss_cons (ds_if (O' := []) (dt_bool (dw_or (dt_not (dt_val (de_fn o_is_list (hr.mono (by decide)) tk (da_cons (dv 4) (da_cons (de_gint g_MOST_STEPS) da_nil)) (aCons_len (aCons_len aNil_len))))) (dw_or1 (dt_cmp (op_eqe hu64) (dv 4) (de_tup da_nil))))) (dss_one ds_never) dss_nil)
  (dss_cons (ds_for ps (di_range1 (da_cons (de_callB cr_len (by rfl) h_len (dab_cons (dv 4) dab_nil)) da_nil) h_range) (dg_name 5 nd) (dss_one (ds_if (O' := []) (dt_not (dt_val (de_fn o_is_step (hr.mono (by decide)) tk (da_cons (dv 0) (da_cons (dv 4) (da_cons (dv 5) da_nil))) (aCons_len (aCons_len (aCons_len aNil_len)))))) (dss_one ds_never) dss_nil)))
  (dss_cons (ds_if (O' := []) (dt_not (dt_val (de_fn o_is_list (hr.mono (by decide)) tk (da_cons (de_sub hu64 (dv 3) de_int) (da_cons (de_gint g_MOST_PARTS) da_nil)) (aCons_len (aCons_len aNil_len))))) (dss_one ds_never) dss_nil)
  (dss_one (ds_for ps (di_en (da_cons (de_sub hu64 (dv 3) de_int) da_nil) h_enumerate) (dg_tup (dgs_cons (dg_name 6 nd) (dgs_cons (dg_name 7 nd) dgs_nil))) (dss_one (ds_if (O' := []) (dt_not (dt_val (de_fn o_is_handler (hr.mono (by decide)) tk (da_cons (dv 0) (da_cons (dv 4) (da_cons (dv 7) da_nil))) (aCons_len (aCons_len (aCons_len aNil_len)))))) (dss_one ds_never) dss_nil))))))))
theorem sc_is_kind_in : FnScope ["names", "value"] ["names", "value"] (defScope s_is_kind_in) := ⟨rfl, rfl, rfl, by decide +kernel, rfl, by decide +kernel, by decide +kernel⟩
theorem ok_is_kind_in {P : Program} {w : World} {K : PySem.W.Frag} {h : Heap} {mg : Str → Option Value} {base : Heap} (kx : K.In h) (G : h.Ns mainGlobals mg) (c : SaysX fa fn ts bs w K) : Fok P w K mg base "is_kind_in" 2 ["names", "value"] f_is_kind_in := by
  have o_is_word := ok_is_word (P := P) (w := w) (base := base) kx G c
  have g_NUM := He.str_ok kx G (c.d.fact 13 (f := .str "NUM" ("num" : Str)) rfl)
  obtain ⟨fd, F⟩ := c.d.def_ 11 (d := d_is_kind_in) rfl
  have b : Binds K fd ["names", "value"] [] := F.bindsN fun _ _ _ _ _ _ us hl => match us, hl with | [_, _], _ => rfl
  have nd := sc_is_kind_in.nd
  refine ⟨fd, fn_dl (k := 1) (O' := []) F sc_is_kind_in (by decide) fun cdv A outer s H E hr => ?_, b, F.kp, He.glo_ok kx G (c.d.fact 30 (f := .glo "is_kind_in") rfl)⟩
  have hu64 := hu_64 hr
  have hu := hu_65 hr
  have tk := takes_of (X := cxOf (L2.CX P w) P w K mg base ["names", "value"] "is_kind_in" (defScope s_is_kind_in) (He.ga K "is_kind_in") cdv A outer s H E) rfl rfl rfl rfl
  have ps := passes_of (X := cxOf (L2.CX P w) P w K mg base ["names", "value"] "is_kind_in" (defScope s_is_kind_in) (He.ga K "is_kind_in") cdv A outer s H E) rfl
  exact (dss_one (ds_ret (de_and (de_fn o_is_word (hr.mono (by decide)) tk (da_cons (dv 1) da_nil) (aCons_len aNil_len)) (de_one (de_or (de_cmp (op_eqd hu64) (dv 1) (de_gstr g_NUM)) (de_one (de_cmp (op_ind hu) (dv 1) (dv 0))))))))
theorem sc_is_method : FnScope ["classes", "names", "told", "at", "value", "upper", "method", "kind"] ["classes", "names", "told", "at"] (defScope s_is_method) := ⟨rfl, rfl, rfl, by decide +kernel, rfl, by decide +kernel, by decide +kernel⟩
theorem ok_is_method {P : Program} {w : World} {K : PySem.W.Frag} {h : Heap} {mg : Str → Option Value} {base : Heap} (kx : K.In h) (G : h.Ns mainGlobals mg) (c : SaysX fa fn ts bs w K) : Fok P w K mg base "is_method" 3 ["classes", "names", "told", "at"] f_is_method := by
  have o_is_word := ok_is_word (P := P) (w := w) (base := base) kx G c
  have o_is_list := ok_is_list (P := P) (w := w) (base := base) kx G c
  have o_is_kind_in := ok_is_kind_in (P := P) (w := w) (base := base) kx G c
  have o_row_of := ok_row_of (P := P) (w := w) (base := base) kx G c
  have h_isinstance := He.free_ok kx G (c.d.fact 2 (f := .free "isinstance") rfl)
  have h_tuple := He.free_ok kx G (c.d.fact 3 (f := .free "tuple") rfl)
  have h_len := He.free_ok kx G (c.d.fact 4 (f := .free "len") rfl)
  have h_all := He.free_ok kx G (c.d.fact 7 (f := .free "all") rfl)
  have g_MOST_INS_houses := He.int_ok kx G (c.d.fact 31 (f := .int "MOST_INS_houses" 3) rfl)
  obtain ⟨fd, F⟩ := c.d.def_ 12 (d := d_is_method) rfl
  have b : Binds K fd ["classes", "names", "told", "at"] [] := F.bindsN fun _ _ _ _ _ _ us hl => match us, hl with | [_, _, _, _], _ => rfl
  have nd := sc_is_method.nd
  refine ⟨fd, fn_dl (k := 2) (O' := []) F sc_is_method (by decide) fun cdv A outer s H E hr => ?_, b, F.kp, He.glo_ok kx G (c.d.fact 32 (f := .glo "is_method") rfl)⟩
  have hu64 := hu_64 hr
  have hu := hu_65 hr
  have tk := takes_of (X := cxOf (L2.CX P w) P w K mg base ["classes", "names", "told", "at", "value", "upper", "method", "kind"] "is_method" (defScope s_is_method) (He.ga K "is_method") cdv A outer s H E) rfl rfl rfl rfl
  have ps := passes_of (X := cxOf (L2.CX P w) P w K mg base ["classes", "names", "told", "at", "value", "upper", "method", "kind"] "is_method" (defScope s_is_method) (He.ga K "is_method") cdv A outer s H E) rfl
  exact (dss_cons (ds_set 4 (de_sub hu64 (de_sub hu64 (dv 2) de_int) (dv 3)) nd)
  (dss_cons (ds_if (O' := []) (dt_bool (dw_or (dt_not (dt_val (de_isi (is_tuple) (dv 4) (pe_bltn (by rfl) h_tuple (by rfl) (by rfl)) (.ty _) h_isinstance))) (dw_or (dt_cmp (op_ned hu64) (de_callB cr_len (by rfl) h_len (dab_cons (dv 4) dab_nil)) de_int) (dw_or1 (dt_not (dt_val (de_fn o_is_word (hr.mono (by decide)) tk (da_cons (de_sub hu64 (dv 4) de_int) da_nil) (aCons_len aNil_len)))))))) (dss_one (ds_ret de_bl)) dss_nil)
  (dss_cons (ds_if (O' := []) (dt_bool (dw_or (dt_cmp (op_ind hu) (de_sub hu64 (dv 4) de_int) (de_lc nd (blkOk_by (own := [(("method" : Str), 6)]) (by kernel_rfl)) (di_seq (de_sl (de_sub hu64 (dv 2) de_int) do_none (do_some (dv 3)))) (gok_name 6) (fun _ _ _ _ _ => ((dg_name (O := []) 6 nd)).pg) town_name (fun _ _ _ _ _ => dcs_nil) (fun _ _ _ _ _ => (de_sub hu64 (dv 6) de_int)))) (dw_or1 (dt_not (dt_val (de_fn o_is_list (hr.mono (by decide)) tk (da_cons (de_sub hu64 (dv 4) de_int) (da_cons (de_gint g_MOST_INS_houses) da_nil)) (aCons_len (aCons_len aNil_len)))))))) (dss_one (ds_ret de_bl)) dss_nil)
  (dss_cons (ds_if (O' := []) (dt_bool (dw_or (dt_not (dt_val (de_callB (cr_allD rfl) (by rfl) h_all (dab_cons (de_lc nd (blkOk_by (own := [(("kind" : Str), 7)]) (by kernel_rfl)) (di_seq (de_sub hu64 (dv 4) de_int)) (gok_name 7) (fun _ _ _ _ _ => ((dg_name (O := []) 7 nd)).pg) town_name (fun _ _ _ _ _ => dcs_nil) (fun _ _ _ _ _ => (de_fn o_is_kind_in (hr.mono (by decide)) L2.takes0 (da_cons (dv 1) (da_cons (dv 7) da_nil)) (aCons_len (aCons_len aNil_len))))) dab_nil)))) (dw_or1 (dt_not (dt_val (de_fn o_is_kind_in (hr.mono (by decide)) tk (da_cons (dv 1) (da_cons (de_sub hu64 (dv 4) de_int) da_nil)) (aCons_len (aCons_len aNil_len)))))))) (dss_one (ds_ret de_bl)) dss_nil)
  (dss_cons (ds_for ps (di_seq (de_fn o_row_of (hr.mono (by decide)) tk (da_cons (dv 0) (da_cons (de_sub hu64 (dv 2) de_int) da_nil)) (aCons_len (aCons_len aNil_len)))) (dg_name 5 nd) (dss_one (ds_for ps (di_seq (de_sub hu64 (dv 5) de_int)) (dg_name 6 nd) (dss_one (ds_if (O' := []) (dt_bool (dw_and (dt_cmp (op_eqd hu64) (de_sub hu64 (dv 6) de_int) (de_sub hu64 (dv 4) de_int)) (dw_and1 (dt_cmp (op_ned hu64) (de_sl (dv 6) (do_some de_int) (do_some de_int)) (de_sl (dv 4) (do_some de_int) (do_some de_int)))))) (dss_one (ds_ret de_bl)) dss_nil)))))
  (dss_one (ds_ret de_bl)))))))
theorem sc_check_classes : FnScope ["classes", "index", "told", "names", "place", "method"] ["classes"] (defScope s_check_classes) := ⟨rfl, rfl, rfl, by decide +kernel, rfl, by decide +kernel, by decide +kernel⟩
theorem ok_check_classes {P : Program} {w : World} {K : PySem.W.Frag} {h : Heap} {mg : Str → Option Value} {base : Heap} (kx : K.In h) (G : h.Ns mainGlobals mg) (c : SaysX fa fn ts bs w K) : Fok P w K mg base "check_classes" 5 ["classes"] f_check_classes := by
  have o_is_list := ok_is_list (P := P) (w := w) (base := base) kx G c
  have o_is_class := ok_is_class (P := P) (w := w) (base := base) kx G c
  have o_names_of := ok_names_of (P := P) (w := w) (base := base) kx G c
  have o_are_fields := ok_are_fields (P := P) (w := w) (base := base) kx G c
  have o_is_method := ok_is_method (P := P) (w := w) (base := base) kx G c
  have o_check_code := ok_check_code (P := P) (w := w) (base := base) kx G c
  have h_enumerate := He.free_ok kx G (c.d.fact 27 (f := .free "enumerate") rfl)
  have h_range := He.free_ok kx G (c.d.fact 26 (f := .free "range") rfl)
  have h_len := He.free_ok kx G (c.d.fact 4 (f := .free "len") rfl)
  have g_MOST_CLASSES := He.int_ok kx G (c.d.fact 33 (f := .int "MOST_CLASSES" 8) rfl)
  have g_MOST_PARTS := He.int_ok kx G (c.d.fact 14 (f := .int "MOST_PARTS" 4) rfl)
  obtain ⟨fd, F⟩ := c.d.def_ 13 (d := d_check_classes) rfl
  have b : Binds K fd ["classes"] [] := F.bindsN fun _ _ _ _ _ _ us hl => match us, hl with | [_], _ => rfl
  have nd := sc_check_classes.nd
  refine ⟨fd, fn_dl (k := 4) (O' := []) F sc_check_classes (by decide) fun cdv A outer s H E hr => ?_, b, F.kp, He.glo_ok kx G (c.d.fact 34 (f := .glo "check_classes") rfl)⟩
  have hu64 := hu_64 hr
  have hu := hu_65 hr
  have tk := takes_of (X := cxOf (L2.CX P w) P w K mg base ["classes", "index", "told", "names", "place", "method"] "check_classes" (defScope s_check_classes) (He.ga K "check_classes") cdv A outer s H E) rfl rfl rfl rfl
  have ps := passes_of (X := cxOf (L2.CX P w) P w K mg base ["classes", "index", "told", "names", "place", "method"] "check_classes" (defScope s_check_classes) (He.ga K "check_classes") cdv A outer s H E) rfl
  exact (dss_cons (ds_if (O' := []) (dt_bool (dw_or (dt_not (dt_val (de_fn o_is_list (hr.mono (by decide)) tk (da_cons (dv 0) (da_cons (de_gint g_MOST_CLASSES) da_nil)) (aCons_len (aCons_len aNil_len))))) (dw_or1 (dt_cmp (op_eqe hu64) (dv 0) (de_tup da_nil))))) (dss_one ds_never) dss_nil)
  (dss_cons (ds_for ps (di_en (da_cons (dv 0) da_nil) h_enumerate) (dg_tup (dgs_cons (dg_name 1 nd) (dgs_cons (dg_name 2 nd) dgs_nil))) (dss_one (ds_if (O' := []) (dt_not (dt_val (de_fn o_is_class (hr.mono (by decide)) tk (da_cons (de_sl (dv 0) do_none (do_some (dv 1))) (da_cons (dv 2) da_nil)) (aCons_len (aCons_len aNil_len))))) (dss_one ds_never) dss_nil)))
  (dss_cons (ds_set 3 (de_fn o_names_of (hr.mono (by decide)) tk (da_cons (dv 0) da_nil) (aCons_len aNil_len)) nd)
  (dss_cons (ds_for ps (di_en (da_cons (dv 0) da_nil) h_enumerate) (dg_tup (dgs_cons (dg_name 1 nd) (dgs_cons (dg_name 2 nd) dgs_nil))) (dss_cons (ds_if (O' := []) (dt_not (dt_val (de_fn o_are_fields (hr.mono (by decide)) tk (da_cons (de_sl (dv 0) do_none (do_some (dv 1))) (da_cons (dv 3) (da_cons (dv 2) da_nil))) (aCons_len (aCons_len (aCons_len aNil_len)))))) (dss_one ds_never) dss_nil)
  (dss_cons (ds_if (O' := []) (dt_not (dt_val (de_fn o_is_list (hr.mono (by decide)) tk (da_cons (de_sub hu64 (dv 2) de_int) (da_cons (de_gint g_MOST_PARTS) da_nil)) (aCons_len (aCons_len aNil_len))))) (dss_one ds_never) dss_nil)
  (dss_one (ds_for ps (di_range1 (da_cons (de_callB cr_len (by rfl) h_len (dab_cons (de_sub hu64 (dv 2) de_int) dab_nil)) da_nil) h_range) (dg_name 4 nd) (dss_one (ds_if (O' := []) (dt_not (dt_val (de_fn o_is_method (hr.mono (by decide)) tk (da_cons (de_sl (dv 0) do_none (do_some (dv 1))) (da_cons (dv 3) (da_cons (dv 2) (da_cons (dv 4) da_nil)))) (aCons_len (aCons_len (aCons_len (aCons_len aNil_len))))))) (dss_one ds_never) dss_nil)))))))
  (dss_one (ds_for ps (di_en (da_cons (dv 0) da_nil) h_enumerate) (dg_tup (dgs_cons (dg_name 1 nd) (dgs_cons (dg_name 2 nd) dgs_nil))) (dss_one (ds_for ps (di_en (da_cons (de_sub hu64 (dv 2) de_int) da_nil) h_enumerate) (dg_tup (dgs_cons (dg_name 4 nd) (dgs_cons (dg_name 5 nd) dgs_nil))) (dss_one (ds_expr (de_fn o_check_code (hr.mono (by decide)) tk (da_cons (dv 0) (da_cons (dv 1) (da_cons (dv 4) (da_cons (dv 5) da_nil)))) (aCons_len (aCons_len (aCons_len (aCons_len aNil_len)))))))))))))))
theorem sc_House___init__ : FnScope ["self", "classes"] ["self", "classes"] (defScope s_House___init__) := ⟨rfl, rfl, rfl, by decide +kernel, rfl, by decide +kernel, by decide +kernel⟩
theorem ok_House___init__ {P : Program} {w : World} {K : PySem.W.Frag} {h : Heap} {mg : Str → Option Value} {base : Heap} (kx : K.In h) (G : h.Ns mainGlobals mg) (c : SaysX fa fn ts bs w K) : Mok P w K mg base (He.ma K (He.ga K "House") "__init__") 6 ["self", "classes"] f_House___init__ := by
  have o_check_classes := ok_check_classes (P := P) (w := w) (base := base) kx G c
  have cl_House := He.cls_ok (c.d.fact 35 (f := .cls "House") rfl)
  have na_House_told : NoAttr K (He.ga K "House") "told" := He.eqO_ok (c.d.fact 36 (f := .noat "House" "told") rfl)
  have fl_told : ∀ z ∈ (["House"] : List Str), Cls K (He.ga K z) ∧ NoAttr K (He.ga K z) "told" := by
    intro z hz
    simp only [List.mem_cons, List.not_mem_nil, or_false] at hz
    rcases hz with rfl
    · exact ⟨cl_House, na_House_told⟩
  obtain ⟨fd, F⟩ := c.d.def_ 14 (d := d_House___init__) rfl
  have b : Binds K fd ["self", "classes"] [] := F.bindsN fun _ _ _ _ _ _ us hl => match us, hl with | [_, _], _ => rfl
  have nd := sc_House___init__.nd
  refine ⟨fd, fn_dl (k := 5) (O' := []) F sc_House___init__ (by decide) fun cdv A outer s H E hr => ?_, b⟩
  have hu64 := hu_64 hr
  have hu := hu_65 hr
  have tk := takes_of (X := cxOf (L2.CX P w) P w K mg base ["self", "classes"] "House.__init__" (defScope s_House___init__) (He.ma K (He.ga K "House") "__init__") cdv A outer s H E) rfl rfl rfl rfl
  have ps := passes_of (X := cxOf (L2.CX P w) P w K mg base ["self", "classes"] "House.__init__" (defScope s_House___init__) (He.ma K (He.ga K "House") "__init__") cdv A outer s H E) rfl
  exact (dss_cons (ds_expr (de_fn o_check_classes (hr.mono (by decide)) tk (da_cons (dv 1) da_nil) (aCons_len aNil_len)))
  (dss_one (ds_fld [("House" : Str)] fl_told (dv 0) (dv 1))))
theorem sc__law_taken : FnScope ["_law_row", "_law_many", "_law_found", "_law_cell"] ["_law_row", "_law_many"] (defScope s__law_taken) := ⟨rfl, rfl, rfl, by decide +kernel, rfl, by decide +kernel, by decide +kernel⟩
theorem ok__law_taken {P : Program} {w : World} {K : PySem.W.Frag} {h : Heap} {mg : Str → Option Value} {base : Heap} (kx : K.In h) (G : h.Ns mainGlobals mg) (c : SaysX fa fn ts bs w K) : Fok P w K mg base "_law_taken" 1 ["_law_row", "_law_many"] f__law_taken := by
  have h_int := He.free_ok kx G (c.d.fact 18 (f := .free "int") rfl)
  have h_len := He.free_ok kx G (c.d.fact 4 (f := .free "len") rfl)
  obtain ⟨fd, F⟩ := c.d.def_ 15 (d := d__law_taken) rfl
  have b : Binds K fd ["_law_row", "_law_many"] [] := F.bindsN fun _ _ _ _ _ _ us hl => match us, hl with | [_, _], _ => rfl
  have nd := sc__law_taken.nd
  refine ⟨fd, fn_dl (k := 0) (O' := []) F sc__law_taken (by decide) fun cdv A outer s H E hr => ?_, b, F.kp, He.glo_ok kx G (c.d.fact 37 (f := .glo "_law_taken") rfl)⟩
  have hu64 := hu_64 hr
  have hu := hu_65 hr
  have tk := takes_of (X := cxOf (L2.CX P w) P w K mg base ["_law_row", "_law_many", "_law_found", "_law_cell"] "_law_taken" (defScope s__law_taken) (He.ga K "_law_taken") cdv A outer s H E) rfl rfl rfl rfl
  have ps := passes_of (X := cxOf (L2.CX P w) P w K mg base ["_law_row", "_law_many", "_law_found", "_law_cell"] "_law_taken" (defScope s__law_taken) (He.ga K "_law_taken") cdv A outer s H E) rfl
  exact (dss_cons (ds_if (O' := []) (dt_cmp (op_gtd) (de_sub hu64 (dv 0) de_int) de_int) (dss_cons (ds_set 2 (de_bin op_modd (de_callTy cr_int (by rfl) h_int (dab_cons (de_sub hu64 (dv 0) de_int) dab_nil)) (dv 1)) nd)
  (dss_cons (ds_putO (dv 0) de_int (de_bin op_divd (de_sub hu64 (dv 0) de_int) (dv 1)))
  (dss_one (ds_ret (dv 2))))) dss_nil)
  (dss_cons (ds_putO (dv 0) de_int (de_bin op_addd (de_sub hu64 (dv 0) de_int) de_int))
  (dss_cons (ds_if (O' := []) (dt_cmp (op_gtd) (de_sub hu64 (dv 0) de_int) (de_callB cr_len (by rfl) h_len (dab_cons (de_sub hu64 (dv 0) de_int) dab_nil))) (dss_cons (ds_putO (dv 0) de_int (de_bin op_modd (de_callTy cr_int (by rfl) h_int (dab_cons (de_bin op_addd (de_bin op_muld (de_sub hu64 (dv 0) de_int) de_int) de_int) dab_nil)) de_int))
  (dss_one (ds_ret (de_bin op_modd (de_callTy cr_int (by rfl) h_int (dab_cons (de_bin op_divd (de_sub hu64 (dv 0) de_int) de_int) dab_nil)) (dv 1))))) dss_nil)
  (dss_cons (ds_set 3 (de_sub hu64 (de_sub hu64 (dv 0) de_int) (de_bin op_subd (de_sub hu64 (dv 0) de_int) de_int)) nd)
  (dss_cons (ds_putO (dv 0) de_int (de_bin op_modd (de_callTy cr_int (by rfl) h_int (dab_cons (de_bin op_addd (de_bin op_addd (de_bin op_muld (de_sub hu64 (dv 0) de_int) de_int) (dv 3)) de_int) dab_nil)) de_int))
  (dss_cons (ds_if (O' := []) (dt_cmp (op_ged) (dv 3) (de_bin op_powd de_int de_int)) (dss_one (ds_putO (dv 0) de_int (de_bin op_divd (dv 3) (dv 1)))) dss_nil)
  (dss_one (ds_ret (de_bin op_modd (de_callTy cr_int (by rfl) h_int (dab_cons (dv 3) dab_nil)) (dv 1))))))))))
theorem sc__law_pick : FnScope ["_law_row", "_law_things"] ["_law_row", "_law_things"] (defScope s__law_pick) := ⟨rfl, rfl, rfl, by decide +kernel, rfl, by decide +kernel, by decide +kernel⟩
theorem ok__law_pick {P : Program} {w : World} {K : PySem.W.Frag} {h : Heap} {mg : Str → Option Value} {base : Heap} (kx : K.In h) (G : h.Ns mainGlobals mg) (c : SaysX fa fn ts bs w K) : Fok P w K mg base "_law_pick" 2 ["_law_row", "_law_things"] f__law_pick := by
  have o__law_taken := ok__law_taken (P := P) (w := w) (base := base) kx G c
  have h_len := He.free_ok kx G (c.d.fact 4 (f := .free "len") rfl)
  obtain ⟨fd, F⟩ := c.d.def_ 16 (d := d__law_pick) rfl
  have b : Binds K fd ["_law_row", "_law_things"] [] := F.bindsN fun _ _ _ _ _ _ us hl => match us, hl with | [_, _], _ => rfl
  have nd := sc__law_pick.nd
  refine ⟨fd, fn_dl (k := 1) (O' := []) F sc__law_pick (by decide) fun cdv A outer s H E hr => ?_, b, F.kp, He.glo_ok kx G (c.d.fact 38 (f := .glo "_law_pick") rfl)⟩
  have hu64 := hu_64 hr
  have hu := hu_65 hr
  have tk := takes_of (X := cxOf (L2.CX P w) P w K mg base ["_law_row", "_law_things"] "_law_pick" (defScope s__law_pick) (He.ga K "_law_pick") cdv A outer s H E) rfl rfl rfl rfl
  have ps := passes_of (X := cxOf (L2.CX P w) P w K mg base ["_law_row", "_law_things"] "_law_pick" (defScope s__law_pick) (He.ga K "_law_pick") cdv A outer s H E) rfl
  exact (dss_one (ds_ret (de_sub hu64 (dv 1) (de_fn o__law_taken (hr.mono (by decide)) tk (da_cons (dv 0) (da_cons (de_callB cr_len (by rfl) h_len (dab_cons (dv 1) dab_nil)) da_nil)) (aCons_len (aCons_len aNil_len))))))
theorem sc__law_errorc : FnScope ["_law_work", "_law_found", "e", "_law_known", "_law_words"] ["_law_work"] (defScope s__law_errorc) := ⟨rfl, rfl, rfl, by decide +kernel, rfl, by decide +kernel, by decide +kernel⟩
theorem ok__law_errorc {P : Program} {w : World} {K : PySem.W.Frag} {h : Heap} {mg : Str → Option Value} {base : Heap} (kx : K.In h) (G : h.Ns mainGlobals mg) (c : SaysX fa fn ts bs w K) : FokT P w K mg base "_law_errorc" 1 "_law_work" f__law_errorc := by
  have h_isinstance := He.free_ok kx G (c.d.fact 2 (f := .free "isinstance") rfl)
  have n_ClassError := He.glo_ok kx G (c.d.fact 39 (f := .glo "ClassError") rfl)
  have toK_ClassError : ∀ d b, to_ClassError d = some b → PySem.W.exmOne K (.ref (He.ga K d)) (.ref (He.ga K "ClassError")) = some b := by
    intro d b e
    unfold to_ClassError at e
    by_cases hh : d = "NoHouse"
    · subst hh; cases e; exact of_decide_eq_true (c.d.fact 40 (f := .exm "NoHouse" "ClassError" true) rfl)
    rw [if_neg hh] at e
    clear hh
    by_cases hh : d = "BadName"
    · subst hh; cases e; exact of_decide_eq_true (c.d.fact 41 (f := .exm "BadName" "ClassError" true) rfl)
    rw [if_neg hh] at e
    clear hh
    by_cases hh : d = "BadWord"
    · subst hh; cases e; exact of_decide_eq_true (c.d.fact 42 (f := .exm "BadWord" "ClassError" true) rfl)
    rw [if_neg hh] at e
    clear hh
    by_cases hh : d = "BadSlot"
    · subst hh; cases e; exact of_decide_eq_true (c.d.fact 43 (f := .exm "BadSlot" "ClassError" true) rfl)
    rw [if_neg hh] at e
    clear hh
    by_cases hh : d = "BadChoice"
    · subst hh; cases e; exact of_decide_eq_true (c.d.fact 44 (f := .exm "BadChoice" "ClassError" true) rfl)
    rw [if_neg hh] at e
    clear hh
    by_cases hh : d = "BadKinds"
    · subst hh; cases e; exact of_decide_eq_true (c.d.fact 45 (f := .exm "BadKinds" "ClassError" true) rfl)
    rw [if_neg hh] at e
    clear hh
    by_cases hh : d = "NotOwn"
    · subst hh; cases e; exact of_decide_eq_true (c.d.fact 46 (f := .exm "NotOwn" "ClassError" true) rfl)
    rw [if_neg hh] at e
    clear hh
    by_cases hh : d = "BadWords"
    · subst hh; cases e; exact of_decide_eq_true (c.d.fact 47 (f := .exm "BadWords" "ClassError" true) rfl)
    rw [if_neg hh] at e
    clear hh
    by_cases hh : d = "BadNames"
    · subst hh; cases e; exact of_decide_eq_true (c.d.fact 48 (f := .exm "BadNames" "ClassError" true) rfl)
    rw [if_neg hh] at e
    clear hh
    cases e
  have gx_BadSlot := He.glo_ok kx G (c.d.fact 49 (f := .glo "BadSlot") rfl)
  have xj__law_errorc_BadSlot : ∀ d b, tj__law_errorc_BadSlot d = some b → ExcC K (He.ga K d) ∧ PySem.W.kitAny K (.ref (He.ga K d)) [.ref (He.ga K "BadSlot")] = some b := by
    intro d b e
    unfold tj__law_errorc_BadSlot at e
    by_cases hh : d = "NoHouse"
    · subst hh; cases e; exact ⟨excCB_ok (c.b 3 rfl), of_decide_eq_true (c.b 4 rfl)⟩
    rw [if_neg hh] at e
    clear hh
    by_cases hh : d = "BadName"
    · subst hh; cases e; exact ⟨excCB_ok (c.b 5 rfl), of_decide_eq_true (c.b 6 rfl)⟩
    rw [if_neg hh] at e
    clear hh
    by_cases hh : d = "BadWord"
    · subst hh; cases e; exact ⟨excCB_ok (c.b 7 rfl), of_decide_eq_true (c.b 8 rfl)⟩
    rw [if_neg hh] at e
    clear hh
    by_cases hh : d = "BadSlot"
    · subst hh; cases e; exact ⟨excCB_ok (c.b 9 rfl), of_decide_eq_true (c.b 10 rfl)⟩
    rw [if_neg hh] at e
    clear hh
    by_cases hh : d = "BadChoice"
    · subst hh; cases e; exact ⟨excCB_ok (c.b 11 rfl), of_decide_eq_true (c.b 12 rfl)⟩
    rw [if_neg hh] at e
    clear hh
    by_cases hh : d = "BadKinds"
    · subst hh; cases e; exact ⟨excCB_ok (c.b 13 rfl), of_decide_eq_true (c.b 14 rfl)⟩
    rw [if_neg hh] at e
    clear hh
    by_cases hh : d = "NotOwn"
    · subst hh; cases e; exact ⟨excCB_ok (c.b 15 rfl), of_decide_eq_true (c.b 16 rfl)⟩
    rw [if_neg hh] at e
    clear hh
    by_cases hh : d = "BadWords"
    · subst hh; cases e; exact ⟨excCB_ok (c.b 17 rfl), of_decide_eq_true (c.b 18 rfl)⟩
    rw [if_neg hh] at e
    clear hh
    by_cases hh : d = "BadNames"
    · subst hh; cases e; exact ⟨excCB_ok (c.b 19 rfl), of_decide_eq_true (c.b 20 rfl)⟩
    rw [if_neg hh] at e
    clear hh
    cases e
  have gx_BadWord := He.glo_ok kx G (c.d.fact 50 (f := .glo "BadWord") rfl)
  have xj__law_errorc_BadWord : ∀ d b, tj__law_errorc_BadWord d = some b → ExcC K (He.ga K d) ∧ PySem.W.kitAny K (.ref (He.ga K d)) [.ref (He.ga K "BadWord")] = some b := by
    intro d b e
    unfold tj__law_errorc_BadWord at e
    by_cases hh : d = "NoHouse"
    · subst hh; cases e; exact ⟨excCB_ok (c.b 3 rfl), of_decide_eq_true (c.b 21 rfl)⟩
    rw [if_neg hh] at e
    clear hh
    by_cases hh : d = "BadName"
    · subst hh; cases e; exact ⟨excCB_ok (c.b 5 rfl), of_decide_eq_true (c.b 22 rfl)⟩
    rw [if_neg hh] at e
    clear hh
    by_cases hh : d = "BadWord"
    · subst hh; cases e; exact ⟨excCB_ok (c.b 7 rfl), of_decide_eq_true (c.b 23 rfl)⟩
    rw [if_neg hh] at e
    clear hh
    by_cases hh : d = "BadSlot"
    · subst hh; cases e; exact ⟨excCB_ok (c.b 9 rfl), of_decide_eq_true (c.b 24 rfl)⟩
    rw [if_neg hh] at e
    clear hh
    by_cases hh : d = "BadChoice"
    · subst hh; cases e; exact ⟨excCB_ok (c.b 11 rfl), of_decide_eq_true (c.b 25 rfl)⟩
    rw [if_neg hh] at e
    clear hh
    by_cases hh : d = "BadKinds"
    · subst hh; cases e; exact ⟨excCB_ok (c.b 13 rfl), of_decide_eq_true (c.b 26 rfl)⟩
    rw [if_neg hh] at e
    clear hh
    by_cases hh : d = "NotOwn"
    · subst hh; cases e; exact ⟨excCB_ok (c.b 15 rfl), of_decide_eq_true (c.b 27 rfl)⟩
    rw [if_neg hh] at e
    clear hh
    by_cases hh : d = "BadWords"
    · subst hh; cases e; exact ⟨excCB_ok (c.b 17 rfl), of_decide_eq_true (c.b 28 rfl)⟩
    rw [if_neg hh] at e
    clear hh
    by_cases hh : d = "BadNames"
    · subst hh; cases e; exact ⟨excCB_ok (c.b 19 rfl), of_decide_eq_true (c.b 29 rfl)⟩
    rw [if_neg hh] at e
    clear hh
    cases e
  have gx_BadName := He.glo_ok kx G (c.d.fact 51 (f := .glo "BadName") rfl)
  have xj__law_errorc_BadName : ∀ d b, tj__law_errorc_BadName d = some b → ExcC K (He.ga K d) ∧ PySem.W.kitAny K (.ref (He.ga K d)) [.ref (He.ga K "BadName")] = some b := by
    intro d b e
    unfold tj__law_errorc_BadName at e
    by_cases hh : d = "NoHouse"
    · subst hh; cases e; exact ⟨excCB_ok (c.b 3 rfl), of_decide_eq_true (c.b 30 rfl)⟩
    rw [if_neg hh] at e
    clear hh
    by_cases hh : d = "BadName"
    · subst hh; cases e; exact ⟨excCB_ok (c.b 5 rfl), of_decide_eq_true (c.b 31 rfl)⟩
    rw [if_neg hh] at e
    clear hh
    by_cases hh : d = "BadWord"
    · subst hh; cases e; exact ⟨excCB_ok (c.b 7 rfl), of_decide_eq_true (c.b 32 rfl)⟩
    rw [if_neg hh] at e
    clear hh
    by_cases hh : d = "BadSlot"
    · subst hh; cases e; exact ⟨excCB_ok (c.b 9 rfl), of_decide_eq_true (c.b 33 rfl)⟩
    rw [if_neg hh] at e
    clear hh
    by_cases hh : d = "BadChoice"
    · subst hh; cases e; exact ⟨excCB_ok (c.b 11 rfl), of_decide_eq_true (c.b 34 rfl)⟩
    rw [if_neg hh] at e
    clear hh
    by_cases hh : d = "BadKinds"
    · subst hh; cases e; exact ⟨excCB_ok (c.b 13 rfl), of_decide_eq_true (c.b 35 rfl)⟩
    rw [if_neg hh] at e
    clear hh
    by_cases hh : d = "NotOwn"
    · subst hh; cases e; exact ⟨excCB_ok (c.b 15 rfl), of_decide_eq_true (c.b 36 rfl)⟩
    rw [if_neg hh] at e
    clear hh
    by_cases hh : d = "BadWords"
    · subst hh; cases e; exact ⟨excCB_ok (c.b 17 rfl), of_decide_eq_true (c.b 37 rfl)⟩
    rw [if_neg hh] at e
    clear hh
    by_cases hh : d = "BadNames"
    · subst hh; cases e; exact ⟨excCB_ok (c.b 19 rfl), of_decide_eq_true (c.b 38 rfl)⟩
    rw [if_neg hh] at e
    clear hh
    cases e
  have gx_NoHouse := He.glo_ok kx G (c.d.fact 52 (f := .glo "NoHouse") rfl)
  have xj__law_errorc_NoHouse : ∀ d b, tj__law_errorc_NoHouse d = some b → ExcC K (He.ga K d) ∧ PySem.W.kitAny K (.ref (He.ga K d)) [.ref (He.ga K "NoHouse")] = some b := by
    intro d b e
    unfold tj__law_errorc_NoHouse at e
    by_cases hh : d = "NoHouse"
    · subst hh; cases e; exact ⟨excCB_ok (c.b 3 rfl), of_decide_eq_true (c.b 39 rfl)⟩
    rw [if_neg hh] at e
    clear hh
    by_cases hh : d = "BadName"
    · subst hh; cases e; exact ⟨excCB_ok (c.b 5 rfl), of_decide_eq_true (c.b 40 rfl)⟩
    rw [if_neg hh] at e
    clear hh
    by_cases hh : d = "BadWord"
    · subst hh; cases e; exact ⟨excCB_ok (c.b 7 rfl), of_decide_eq_true (c.b 41 rfl)⟩
    rw [if_neg hh] at e
    clear hh
    by_cases hh : d = "BadSlot"
    · subst hh; cases e; exact ⟨excCB_ok (c.b 9 rfl), of_decide_eq_true (c.b 42 rfl)⟩
    rw [if_neg hh] at e
    clear hh
    by_cases hh : d = "BadChoice"
    · subst hh; cases e; exact ⟨excCB_ok (c.b 11 rfl), of_decide_eq_true (c.b 43 rfl)⟩
    rw [if_neg hh] at e
    clear hh
    by_cases hh : d = "BadKinds"
    · subst hh; cases e; exact ⟨excCB_ok (c.b 13 rfl), of_decide_eq_true (c.b 44 rfl)⟩
    rw [if_neg hh] at e
    clear hh
    by_cases hh : d = "NotOwn"
    · subst hh; cases e; exact ⟨excCB_ok (c.b 15 rfl), of_decide_eq_true (c.b 45 rfl)⟩
    rw [if_neg hh] at e
    clear hh
    by_cases hh : d = "BadWords"
    · subst hh; cases e; exact ⟨excCB_ok (c.b 17 rfl), of_decide_eq_true (c.b 46 rfl)⟩
    rw [if_neg hh] at e
    clear hh
    by_cases hh : d = "BadNames"
    · subst hh; cases e; exact ⟨excCB_ok (c.b 19 rfl), of_decide_eq_true (c.b 47 rfl)⟩
    rw [if_neg hh] at e
    clear hh
    cases e
  have gx_NotOwn := He.glo_ok kx G (c.d.fact 53 (f := .glo "NotOwn") rfl)
  have xj__law_errorc_NotOwn : ∀ d b, tj__law_errorc_NotOwn d = some b → ExcC K (He.ga K d) ∧ PySem.W.kitAny K (.ref (He.ga K d)) [.ref (He.ga K "NotOwn")] = some b := by
    intro d b e
    unfold tj__law_errorc_NotOwn at e
    by_cases hh : d = "NoHouse"
    · subst hh; cases e; exact ⟨excCB_ok (c.b 3 rfl), of_decide_eq_true (c.b 48 rfl)⟩
    rw [if_neg hh] at e
    clear hh
    by_cases hh : d = "BadName"
    · subst hh; cases e; exact ⟨excCB_ok (c.b 5 rfl), of_decide_eq_true (c.b 49 rfl)⟩
    rw [if_neg hh] at e
    clear hh
    by_cases hh : d = "BadWord"
    · subst hh; cases e; exact ⟨excCB_ok (c.b 7 rfl), of_decide_eq_true (c.b 50 rfl)⟩
    rw [if_neg hh] at e
    clear hh
    by_cases hh : d = "BadSlot"
    · subst hh; cases e; exact ⟨excCB_ok (c.b 9 rfl), of_decide_eq_true (c.b 51 rfl)⟩
    rw [if_neg hh] at e
    clear hh
    by_cases hh : d = "BadChoice"
    · subst hh; cases e; exact ⟨excCB_ok (c.b 11 rfl), of_decide_eq_true (c.b 52 rfl)⟩
    rw [if_neg hh] at e
    clear hh
    by_cases hh : d = "BadKinds"
    · subst hh; cases e; exact ⟨excCB_ok (c.b 13 rfl), of_decide_eq_true (c.b 53 rfl)⟩
    rw [if_neg hh] at e
    clear hh
    by_cases hh : d = "NotOwn"
    · subst hh; cases e; exact ⟨excCB_ok (c.b 15 rfl), of_decide_eq_true (c.b 54 rfl)⟩
    rw [if_neg hh] at e
    clear hh
    by_cases hh : d = "BadWords"
    · subst hh; cases e; exact ⟨excCB_ok (c.b 17 rfl), of_decide_eq_true (c.b 55 rfl)⟩
    rw [if_neg hh] at e
    clear hh
    by_cases hh : d = "BadNames"
    · subst hh; cases e; exact ⟨excCB_ok (c.b 19 rfl), of_decide_eq_true (c.b 56 rfl)⟩
    rw [if_neg hh] at e
    clear hh
    cases e
  have gx_BadKinds := He.glo_ok kx G (c.d.fact 54 (f := .glo "BadKinds") rfl)
  have xj__law_errorc_BadKinds : ∀ d b, tj__law_errorc_BadKinds d = some b → ExcC K (He.ga K d) ∧ PySem.W.kitAny K (.ref (He.ga K d)) [.ref (He.ga K "BadKinds")] = some b := by
    intro d b e
    unfold tj__law_errorc_BadKinds at e
    by_cases hh : d = "NoHouse"
    · subst hh; cases e; exact ⟨excCB_ok (c.b 3 rfl), of_decide_eq_true (c.b 57 rfl)⟩
    rw [if_neg hh] at e
    clear hh
    by_cases hh : d = "BadName"
    · subst hh; cases e; exact ⟨excCB_ok (c.b 5 rfl), of_decide_eq_true (c.b 58 rfl)⟩
    rw [if_neg hh] at e
    clear hh
    by_cases hh : d = "BadWord"
    · subst hh; cases e; exact ⟨excCB_ok (c.b 7 rfl), of_decide_eq_true (c.b 59 rfl)⟩
    rw [if_neg hh] at e
    clear hh
    by_cases hh : d = "BadSlot"
    · subst hh; cases e; exact ⟨excCB_ok (c.b 9 rfl), of_decide_eq_true (c.b 60 rfl)⟩
    rw [if_neg hh] at e
    clear hh
    by_cases hh : d = "BadChoice"
    · subst hh; cases e; exact ⟨excCB_ok (c.b 11 rfl), of_decide_eq_true (c.b 61 rfl)⟩
    rw [if_neg hh] at e
    clear hh
    by_cases hh : d = "BadKinds"
    · subst hh; cases e; exact ⟨excCB_ok (c.b 13 rfl), of_decide_eq_true (c.b 62 rfl)⟩
    rw [if_neg hh] at e
    clear hh
    by_cases hh : d = "NotOwn"
    · subst hh; cases e; exact ⟨excCB_ok (c.b 15 rfl), of_decide_eq_true (c.b 63 rfl)⟩
    rw [if_neg hh] at e
    clear hh
    by_cases hh : d = "BadWords"
    · subst hh; cases e; exact ⟨excCB_ok (c.b 17 rfl), of_decide_eq_true (c.b 64 rfl)⟩
    rw [if_neg hh] at e
    clear hh
    by_cases hh : d = "BadNames"
    · subst hh; cases e; exact ⟨excCB_ok (c.b 19 rfl), of_decide_eq_true (c.b 65 rfl)⟩
    rw [if_neg hh] at e
    clear hh
    cases e
  have gx_BadChoice := He.glo_ok kx G (c.d.fact 55 (f := .glo "BadChoice") rfl)
  have xj__law_errorc_BadChoice : ∀ d b, tj__law_errorc_BadChoice d = some b → ExcC K (He.ga K d) ∧ PySem.W.kitAny K (.ref (He.ga K d)) [.ref (He.ga K "BadChoice")] = some b := by
    intro d b e
    unfold tj__law_errorc_BadChoice at e
    by_cases hh : d = "NoHouse"
    · subst hh; cases e; exact ⟨excCB_ok (c.b 3 rfl), of_decide_eq_true (c.b 66 rfl)⟩
    rw [if_neg hh] at e
    clear hh
    by_cases hh : d = "BadName"
    · subst hh; cases e; exact ⟨excCB_ok (c.b 5 rfl), of_decide_eq_true (c.b 67 rfl)⟩
    rw [if_neg hh] at e
    clear hh
    by_cases hh : d = "BadWord"
    · subst hh; cases e; exact ⟨excCB_ok (c.b 7 rfl), of_decide_eq_true (c.b 68 rfl)⟩
    rw [if_neg hh] at e
    clear hh
    by_cases hh : d = "BadSlot"
    · subst hh; cases e; exact ⟨excCB_ok (c.b 9 rfl), of_decide_eq_true (c.b 69 rfl)⟩
    rw [if_neg hh] at e
    clear hh
    by_cases hh : d = "BadChoice"
    · subst hh; cases e; exact ⟨excCB_ok (c.b 11 rfl), of_decide_eq_true (c.b 70 rfl)⟩
    rw [if_neg hh] at e
    clear hh
    by_cases hh : d = "BadKinds"
    · subst hh; cases e; exact ⟨excCB_ok (c.b 13 rfl), of_decide_eq_true (c.b 71 rfl)⟩
    rw [if_neg hh] at e
    clear hh
    by_cases hh : d = "NotOwn"
    · subst hh; cases e; exact ⟨excCB_ok (c.b 15 rfl), of_decide_eq_true (c.b 72 rfl)⟩
    rw [if_neg hh] at e
    clear hh
    by_cases hh : d = "BadWords"
    · subst hh; cases e; exact ⟨excCB_ok (c.b 17 rfl), of_decide_eq_true (c.b 73 rfl)⟩
    rw [if_neg hh] at e
    clear hh
    by_cases hh : d = "BadNames"
    · subst hh; cases e; exact ⟨excCB_ok (c.b 19 rfl), of_decide_eq_true (c.b 74 rfl)⟩
    rw [if_neg hh] at e
    clear hh
    cases e
  have gx_BadNames := He.glo_ok kx G (c.d.fact 56 (f := .glo "BadNames") rfl)
  have xj__law_errorc_BadNames : ∀ d b, tj__law_errorc_BadNames d = some b → ExcC K (He.ga K d) ∧ PySem.W.kitAny K (.ref (He.ga K d)) [.ref (He.ga K "BadNames")] = some b := by
    intro d b e
    unfold tj__law_errorc_BadNames at e
    by_cases hh : d = "NoHouse"
    · subst hh; cases e; exact ⟨excCB_ok (c.b 3 rfl), of_decide_eq_true (c.b 75 rfl)⟩
    rw [if_neg hh] at e
    clear hh
    by_cases hh : d = "BadName"
    · subst hh; cases e; exact ⟨excCB_ok (c.b 5 rfl), of_decide_eq_true (c.b 76 rfl)⟩
    rw [if_neg hh] at e
    clear hh
    by_cases hh : d = "BadWord"
    · subst hh; cases e; exact ⟨excCB_ok (c.b 7 rfl), of_decide_eq_true (c.b 77 rfl)⟩
    rw [if_neg hh] at e
    clear hh
    by_cases hh : d = "BadSlot"
    · subst hh; cases e; exact ⟨excCB_ok (c.b 9 rfl), of_decide_eq_true (c.b 78 rfl)⟩
    rw [if_neg hh] at e
    clear hh
    by_cases hh : d = "BadChoice"
    · subst hh; cases e; exact ⟨excCB_ok (c.b 11 rfl), of_decide_eq_true (c.b 79 rfl)⟩
    rw [if_neg hh] at e
    clear hh
    by_cases hh : d = "BadKinds"
    · subst hh; cases e; exact ⟨excCB_ok (c.b 13 rfl), of_decide_eq_true (c.b 80 rfl)⟩
    rw [if_neg hh] at e
    clear hh
    by_cases hh : d = "NotOwn"
    · subst hh; cases e; exact ⟨excCB_ok (c.b 15 rfl), of_decide_eq_true (c.b 81 rfl)⟩
    rw [if_neg hh] at e
    clear hh
    by_cases hh : d = "BadWords"
    · subst hh; cases e; exact ⟨excCB_ok (c.b 17 rfl), of_decide_eq_true (c.b 82 rfl)⟩
    rw [if_neg hh] at e
    clear hh
    by_cases hh : d = "BadNames"
    · subst hh; cases e; exact ⟨excCB_ok (c.b 19 rfl), of_decide_eq_true (c.b 83 rfl)⟩
    rw [if_neg hh] at e
    clear hh
    cases e
  have gx_BadWords := He.glo_ok kx G (c.d.fact 57 (f := .glo "BadWords") rfl)
  have xj__law_errorc_BadWords : ∀ d b, tj__law_errorc_BadWords d = some b → ExcC K (He.ga K d) ∧ PySem.W.kitAny K (.ref (He.ga K d)) [.ref (He.ga K "BadWords")] = some b := by
    intro d b e
    unfold tj__law_errorc_BadWords at e
    by_cases hh : d = "NoHouse"
    · subst hh; cases e; exact ⟨excCB_ok (c.b 3 rfl), of_decide_eq_true (c.b 84 rfl)⟩
    rw [if_neg hh] at e
    clear hh
    by_cases hh : d = "BadName"
    · subst hh; cases e; exact ⟨excCB_ok (c.b 5 rfl), of_decide_eq_true (c.b 85 rfl)⟩
    rw [if_neg hh] at e
    clear hh
    by_cases hh : d = "BadWord"
    · subst hh; cases e; exact ⟨excCB_ok (c.b 7 rfl), of_decide_eq_true (c.b 86 rfl)⟩
    rw [if_neg hh] at e
    clear hh
    by_cases hh : d = "BadSlot"
    · subst hh; cases e; exact ⟨excCB_ok (c.b 9 rfl), of_decide_eq_true (c.b 87 rfl)⟩
    rw [if_neg hh] at e
    clear hh
    by_cases hh : d = "BadChoice"
    · subst hh; cases e; exact ⟨excCB_ok (c.b 11 rfl), of_decide_eq_true (c.b 88 rfl)⟩
    rw [if_neg hh] at e
    clear hh
    by_cases hh : d = "BadKinds"
    · subst hh; cases e; exact ⟨excCB_ok (c.b 13 rfl), of_decide_eq_true (c.b 89 rfl)⟩
    rw [if_neg hh] at e
    clear hh
    by_cases hh : d = "NotOwn"
    · subst hh; cases e; exact ⟨excCB_ok (c.b 15 rfl), of_decide_eq_true (c.b 90 rfl)⟩
    rw [if_neg hh] at e
    clear hh
    by_cases hh : d = "BadWords"
    · subst hh; cases e; exact ⟨excCB_ok (c.b 17 rfl), of_decide_eq_true (c.b 91 rfl)⟩
    rw [if_neg hh] at e
    clear hh
    by_cases hh : d = "BadNames"
    · subst hh; cases e; exact ⟨excCB_ok (c.b 19 rfl), of_decide_eq_true (c.b 92 rfl)⟩
    rw [if_neg hh] at e
    clear hh
    cases e
  have xf1_BadChoice_index : XfC K (He.ga K "BadChoice") ∧ PySem.W.findIn K (.ref (He.ga K "BadChoice")) "index" = some none := ⟨xfB_ok (c.b 93 rfl), He.eqO_ok (c.d.fact 58 (f := .noat "BadChoice" "index") rfl)⟩
  have xf_BadChoice_index : ∀ z ∈ (["BadChoice"] : List Str), XfC K (He.ga K z) ∧ PySem.W.findIn K (.ref (He.ga K z)) "index" = some none := by
    intro z hz
    simp only [List.mem_cons, List.not_mem_nil, or_false] at hz
    rcases hz with rfl
    · exact xf1_BadChoice_index
  obtain ⟨fd, F⟩ := c.d.def_ 17 (d := d__law_errorc) rfl
  have b : Binds K fd ["_law_work"] [] := F.bindsN fun _ _ _ _ _ _ us hl => match us, hl with | [_], _ => rfl
  have nd := sc__law_errorc.nd
  refine fokT (k := 0) (O' := []) F b sc__law_errorc (He.glo_ok kx G (c.d.fact 59 (f := .glo "_law_errorc") rfl)) (by first | exact Or.inl rfl | exact Or.inr (Or.inl rfl)) rfl fun cdv A outer s H f c' q w0 S0 th tl hr hA => ?_
  have hu64 := hu_64 hr
  have hu := hu_65 hr
  exact (dss_cons (ds_set 1 de_str nd)
  (dss_cons (ds_tryT hA nd (.named (i := 2) ⟨by rfl, by decide, .inl n_ClassError⟩ (by rfl) (by rfl) (by decide) toK_ClassError (fun a oe cls d pn x hz hf =>
  (DSs.post (O1 := [2]) (O' := []) (dss_cons (ds_set 3 (DE.toE (de_lst (da_cons (de_xis2 xj__law_errorc_NoHouse hz hf h_isinstance (pe_glob (by rfl) gx_NoHouse (by rfl)) (.own _)) (da_cons (de_xis2 xj__law_errorc_BadName hz hf h_isinstance (pe_glob (by rfl) gx_BadName (by rfl)) (.own _)) (da_cons (de_xis2 xj__law_errorc_BadWord hz hf h_isinstance (pe_glob (by rfl) gx_BadWord (by rfl)) (.own _)) (da_cons (de_xis2 xj__law_errorc_BadSlot hz hf h_isinstance (pe_glob (by rfl) gx_BadSlot (by rfl)) (.own _)) da_nil)))))) nd)
  (dss_cons (ds_set 3 (de_bin op_addd (dv 3) (de_lst (da_cons (de_xis2 xj__law_errorc_BadChoice hz hf h_isinstance (pe_glob (by rfl) gx_BadChoice (by rfl)) (.own _)) (da_cons (de_xis2 xj__law_errorc_BadKinds hz hf h_isinstance (pe_glob (by rfl) gx_BadKinds (by rfl)) (.own _)) (da_cons (de_xis2 xj__law_errorc_NotOwn hz hf h_isinstance (pe_glob (by rfl) gx_NotOwn (by rfl)) (.own _)) da_nil))))) nd)
  (dss_cons (ds_set 3 (de_bin op_addd (dv 3) (de_lst (da_cons (de_xis2 xj__law_errorc_BadWords hz hf h_isinstance (pe_glob (by rfl) gx_BadWords (by rfl)) (.own _)) (da_cons (de_xis2 xj__law_errorc_BadNames hz hf h_isinstance (pe_glob (by rfl) gx_BadNames (by rfl)) (.own _)) da_nil)))) nd)
  (dss_cons (ds_set 4 (DE.toE (de_lst (da_cons de_str (da_cons de_str (da_cons de_str (da_cons de_str (da_cons de_str (da_cons de_str (da_cons de_str (da_cons de_str (da_cons de_str da_nil))))))))))) nd)
  (dss_cons (ds_set 1 (de_ifx (k := .e) (dt_cmp (op_eqd hu64) (de_cnt (dv 3) de_bl) de_int) (de_sub hu64 (dv 4) (de_idx hu (dv 3) de_bl)) de_str) nd)
  (dss_one (ds_if (O' := [2]) (dt_cmp (op_eqd hu64) (dv 1) de_str) (dss_one (ds_set 1 (de_tup (da_cons (dv 1) (da_cons (de_xf (i := 2) [("BadChoice" : Str)] xf_BadChoice_index hz hf) da_nil))) nd)) dss_nil))))))))) .nil))
  (dss_one (ds_ret (dv 1)))))
theorem sc_need_house : FnScope ["house"] ["house"] (defScope s_need_house) := ⟨rfl, rfl, rfl, by decide +kernel, rfl, by decide +kernel, by decide +kernel⟩
theorem ok_need_house {P : Program} {w : World} {K : PySem.W.Frag} {h : Heap} {mg : Str → Option Value} {base : Heap} (kx : K.In h) (G : h.Ns mainGlobals mg) (c : SaysX fa fn ts bs w K) : Fok P w K mg base "need_house" 1 ["house"] f_need_house := by
  have h_isinstance := He.free_ok kx G (c.d.fact 2 (f := .free "isinstance") rfl)
  have z_NoHouse := c.b 94 rfl
  have gz_NoHouse := He.glo_ok kx G (c.d.fact 52 (f := .glo "NoHouse") rfl)
  have gc_House := He.glo_ok kx G (c.d.fact 60 (f := .glo "House") rfl)
  have is_House : IsK K [.ref (He.ga K "House")] tb_House to_House := isK_own (c.b 95 rfl) (by
    intro d b e
    unfold to_House at e
    by_cases hh : d = "House"
    · subst hh; cases e; exact ⟨clsIB_ok (c.b 96 rfl), of_decide_eq_true (c.b 97 rfl)⟩
    rw [if_neg hh] at e
    clear hh
    cases e)
  obtain ⟨fd, F⟩ := c.d.def_ 18 (d := d_need_house) rfl
  have b : Binds K fd ["house"] [] := F.bindsN fun _ _ _ _ _ _ us hl => match us, hl with | [_], _ => rfl
  have nd := sc_need_house.nd
  refine ⟨fd, fn_dl (k := 0) (O' := []) F sc_need_house (by decide) fun cdv A outer s H E hr => ?_, b, F.kp, He.glo_ok kx G (c.d.fact 61 (f := .glo "need_house") rfl)⟩
  have hu64 := hu_64 hr
  have hu := hu_65 hr
  have tk := takes_of (X := cxOf (L2.CX P w) P w K mg base ["house"] "need_house" (defScope s_need_house) (He.ga K "need_house") cdv A outer s H E) rfl rfl rfl rfl
  have ps := passes_of (X := cxOf (L2.CX P w) P w K mg base ["house"] "need_house" (defScope s_need_house) (He.ga K "need_house") cdv A outer s H E) rfl
  exact (dss_one (ds_if (O' := []) (dt_not (dt_val (de_isi (is_House) (dv 0) (pe_glob (by rfl) gc_House (by rfl)) (.own _) h_isinstance))) (dss_one (ds_raise0 z_NoHouse gz_NoHouse tk)) dss_nil))
theorem sc_is_option : FnScope ["house", "value", "names", "kind"] ["house", "value"] (defScope s_is_option) := ⟨rfl, rfl, rfl, by decide +kernel, rfl, by decide +kernel, by decide +kernel⟩
theorem ok_is_option {P : Program} {w : World} {K : PySem.W.Frag} {h : Heap} {mg : Str → Option Value} {base : Heap} (kx : K.In h) (G : h.Ns mainGlobals mg) (c : SaysX fa fn ts bs w K) : Fok P w K mg base "is_option" 3 ["house", "value"] f_is_option := by
  have o_names_of := ok_names_of (P := P) (w := w) (base := base) kx G c
  have o_is_list := ok_is_list (P := P) (w := w) (base := base) kx G c
  have o_is_kind_in := ok_is_kind_in (P := P) (w := w) (base := base) kx G c
  have h_all := He.free_ok kx G (c.d.fact 7 (f := .free "all") rfl)
  have g_MOST_INS_calls := He.int_ok kx G (c.d.fact 62 (f := .int "MOST_INS_calls" 3) rfl)
  have cl_House := He.cls_ok (c.d.fact 35 (f := .cls "House") rfl)
  have na_House_told : NoAttr K (He.ga K "House") "told" := He.eqO_ok (c.d.fact 36 (f := .noat "House" "told") rfl)
  have fl_told : ∀ z ∈ (["House"] : List Str), Cls K (He.ga K z) ∧ NoAttr K (He.ga K z) "told" := by
    intro z hz
    simp only [List.mem_cons, List.not_mem_nil, or_false] at hz
    rcases hz with rfl
    · exact ⟨cl_House, na_House_told⟩
  obtain ⟨fd, F⟩ := c.d.def_ 19 (d := d_is_option) rfl
  have b : Binds K fd ["house", "value"] [] := F.bindsN fun _ _ _ _ _ _ us hl => match us, hl with | [_, _], _ => rfl
  have nd := sc_is_option.nd
  refine ⟨fd, fn_dl (k := 2) (O' := []) F sc_is_option (by decide) fun cdv A outer s H E hr => ?_, b, F.kp, He.glo_ok kx G (c.d.fact 63 (f := .glo "is_option") rfl)⟩
  have hu64 := hu_64 hr
  have hu := hu_65 hr
  have tk := takes_of (X := cxOf (L2.CX P w) P w K mg base ["house", "value", "names", "kind"] "is_option" (defScope s_is_option) (He.ga K "is_option") cdv A outer s H E) rfl rfl rfl rfl
  have ps := passes_of (X := cxOf (L2.CX P w) P w K mg base ["house", "value", "names", "kind"] "is_option" (defScope s_is_option) (He.ga K "is_option") cdv A outer s H E) rfl
  exact (dss_cons (ds_set 2 (de_fn o_names_of (hr.mono (by decide)) tk (da_cons (de_fld [("House" : Str)] fl_told (dv 0)) da_nil) (aCons_len aNil_len)) nd)
  (dss_one (ds_ret (de_and (de_fn o_is_list (hr.mono (by decide)) tk (da_cons (dv 1) (da_cons (de_gint g_MOST_INS_calls) da_nil)) (aCons_len (aCons_len aNil_len))) (de_one (de_callB (cr_allD rfl) (by rfl) h_all (dab_cons (de_lc nd (blkOk_by (own := [(("kind" : Str), 3)]) (by kernel_rfl)) (di_seq (dv 1)) (gok_name 3) (fun _ _ _ _ _ => ((dg_name (O := []) 3 nd)).pg) town_name (fun _ _ _ _ _ => dcs_nil) (fun _ _ _ _ _ => (de_fn o_is_kind_in (hr.mono (by decide)) L2.takes0 (da_cons (dv 2) (da_cons (dv 3) da_nil)) (aCons_len (aCons_len aNil_len))))) dab_nil)))))))
theorem sc_need_choice : FnScope ["house", "choice", "index", "option"] ["house", "choice"] (defScope s_need_choice) := ⟨rfl, rfl, rfl, by decide +kernel, rfl, by decide +kernel, by decide +kernel⟩
theorem ok_need_choice {P : Program} {w : World} {K : PySem.W.Frag} {h : Heap} {mg : Str → Option Value} {base : Heap} (kx : K.In h) (G : h.Ns mainGlobals mg) (c : SaysX fa fn ts bs w K) : Fok P w K mg base "need_choice" 4 ["house", "choice"] f_need_choice := by
  have o_need_house := ok_need_house (P := P) (w := w) (base := base) kx G c
  have o_is_list := ok_is_list (P := P) (w := w) (base := base) kx G c
  have o_is_option := ok_is_option (P := P) (w := w) (base := base) kx G c
  have h_enumerate := He.free_ok kx G (c.d.fact 27 (f := .free "enumerate") rfl)
  have g_MOST_OPTIONS := He.int_ok kx G (c.d.fact 64 (f := .int "MOST_OPTIONS" 8) rfl)
  have x_BadChoice := xok_BadChoice (P := P) (w := w) (base := base) kx G c
  obtain ⟨fd, F⟩ := c.d.def_ 20 (d := d_need_choice) rfl
  have b : Binds K fd ["house", "choice"] [] := F.bindsN fun _ _ _ _ _ _ us hl => match us, hl with | [_, _], _ => rfl
  have nd := sc_need_choice.nd
  refine ⟨fd, fn_dl (k := 3) (O' := []) F sc_need_choice (by decide) fun cdv A outer s H E hr => ?_, b, F.kp, He.glo_ok kx G (c.d.fact 65 (f := .glo "need_choice") rfl)⟩
  have hu64 := hu_64 hr
  have hu := hu_65 hr
  have tk := takes_of (X := cxOf (L2.CX P w) P w K mg base ["house", "choice", "index", "option"] "need_choice" (defScope s_need_choice) (He.ga K "need_choice") cdv A outer s H E) rfl rfl rfl rfl
  have ps := passes_of (X := cxOf (L2.CX P w) P w K mg base ["house", "choice", "index", "option"] "need_choice" (defScope s_need_choice) (He.ga K "need_choice") cdv A outer s H E) rfl
  exact (dss_cons (ds_expr (de_fn o_need_house (hr.mono (by decide)) tk (da_cons (dv 0) da_nil) (aCons_len aNil_len)))
  (dss_cons (ds_if (O' := []) (dt_bool (dw_or (dt_not (dt_val (de_fn o_is_list (hr.mono (by decide)) tk (da_cons (dv 1) (da_cons (de_gint g_MOST_OPTIONS) da_nil)) (aCons_len (aCons_len aNil_len))))) (dw_or1 (dt_cmp (op_eqe hu64) (dv 1) (de_tup da_nil))))) (dss_one (ds_raise x_BadChoice (hr.mono (by decide)) tk (da_cons de_non da_nil) (aCons_len aNil_len))) dss_nil)
  (dss_one (ds_for ps (di_en (da_cons (dv 1) da_nil) h_enumerate) (dg_tup (dgs_cons (dg_name 2 nd) (dgs_cons (dg_name 3 nd) dgs_nil))) (dss_one (ds_if (O' := []) (dt_bool (dw_or (dt_not (dt_val (de_fn o_is_option (hr.mono (by decide)) tk (da_cons (dv 0) (da_cons (dv 3) da_nil)) (aCons_len (aCons_len aNil_len))))) (dw_or1 (dt_cmp (op_ind hu) (dv 3) (de_sl (dv 1) do_none (do_some (dv 2))))))) (dss_one (ds_raise x_BadChoice (hr.mono (by decide)) tk (da_cons (dv 2) da_nil) (aCons_len aNil_len))) dss_nil))))))
theorem sc_need_kinds : FnScope ["house", "kinds", "names", "kind"] ["house", "kinds"] (defScope s_need_kinds) := ⟨rfl, rfl, rfl, by decide +kernel, rfl, by decide +kernel, by decide +kernel⟩
theorem ok_need_kinds {P : Program} {w : World} {K : PySem.W.Frag} {h : Heap} {mg : Str → Option Value} {base : Heap} (kx : K.In h) (G : h.Ns mainGlobals mg) (c : SaysX fa fn ts bs w K) : Fok P w K mg base "need_kinds" 3 ["house", "kinds"] f_need_kinds := by
  have o_names_of := ok_names_of (P := P) (w := w) (base := base) kx G c
  have o_is_list := ok_is_list (P := P) (w := w) (base := base) kx G c
  have o_is_kind_in := ok_is_kind_in (P := P) (w := w) (base := base) kx G c
  have h_all := He.free_ok kx G (c.d.fact 7 (f := .free "all") rfl)
  have g_NONE := He.str_ok kx G (c.d.fact 66 (f := .str "NONE" ("none" : Str)) rfl)
  have g_MOST_INS_calls := He.int_ok kx G (c.d.fact 62 (f := .int "MOST_INS_calls" 3) rfl)
  have z_BadKinds := c.b 98 rfl
  have gz_BadKinds := He.glo_ok kx G (c.d.fact 54 (f := .glo "BadKinds") rfl)
  have cl_House := He.cls_ok (c.d.fact 35 (f := .cls "House") rfl)
  have na_House_told : NoAttr K (He.ga K "House") "told" := He.eqO_ok (c.d.fact 36 (f := .noat "House" "told") rfl)
  have fl_told : ∀ z ∈ (["House"] : List Str), Cls K (He.ga K z) ∧ NoAttr K (He.ga K z) "told" := by
    intro z hz
    simp only [List.mem_cons, List.not_mem_nil, or_false] at hz
    rcases hz with rfl
    · exact ⟨cl_House, na_House_told⟩
  obtain ⟨fd, F⟩ := c.d.def_ 21 (d := d_need_kinds) rfl
  have b : Binds K fd ["house", "kinds"] [] := F.bindsN fun _ _ _ _ _ _ us hl => match us, hl with | [_, _], _ => rfl
  have nd := sc_need_kinds.nd
  refine ⟨fd, fn_dl (k := 2) (O' := []) F sc_need_kinds (by decide) fun cdv A outer s H E hr => ?_, b, F.kp, He.glo_ok kx G (c.d.fact 67 (f := .glo "need_kinds") rfl)⟩
  have hu64 := hu_64 hr
  have hu := hu_65 hr
  have tk := takes_of (X := cxOf (L2.CX P w) P w K mg base ["house", "kinds", "names", "kind"] "need_kinds" (defScope s_need_kinds) (He.ga K "need_kinds") cdv A outer s H E) rfl rfl rfl rfl
  have ps := passes_of (X := cxOf (L2.CX P w) P w K mg base ["house", "kinds", "names", "kind"] "need_kinds" (defScope s_need_kinds) (He.ga K "need_kinds") cdv A outer s H E) rfl
  exact (dss_cons (ds_set 2 (DE.toE (de_lst (da_star (de_fn o_names_of (hr.mono (by decide)) tk (da_cons (de_fld [("House" : Str)] fl_told (dv 0)) da_nil) (aCons_len aNil_len)) (da_cons (de_gstr g_NONE) da_nil)))) nd)
  (dss_one (ds_if (O' := []) (dt_bool (dw_or (dt_not (dt_val (de_fn o_is_list (hr.mono (by decide)) tk (da_cons (dv 1) (da_cons (de_gint g_MOST_INS_calls) da_nil)) (aCons_len (aCons_len aNil_len))))) (dw_or1 (dt_not (dt_val (de_callB (cr_allD rfl) (by rfl) h_all (dab_cons (de_lc nd (blkOk_by (own := [(("kind" : Str), 3)]) (by kernel_rfl)) (di_seq (dv 1)) (gok_name 3) (fun _ _ _ _ _ => ((dg_name (O := []) 3 nd)).pg) town_name (fun _ _ _ _ _ => dcs_nil) (fun _ _ _ _ _ => (de_fn o_is_kind_in (hr.mono (by decide)) L2.takes0 (da_cons (dv 2) (da_cons (dv 3) da_nil)) (aCons_len (aCons_len aNil_len))))) dab_nil))))))) (dss_one (ds_raise0 z_BadKinds gz_BadKinds tk)) dss_nil)))
theorem sc_up_from : FnScope ["house", "name", "told"] ["house", "name"] (defScope s_up_from) := ⟨rfl, rfl, rfl, by decide +kernel, rfl, by decide +kernel, by decide +kernel⟩
theorem ok_up_from {P : Program} {w : World} {K : PySem.W.Frag} {h : Heap} {mg : Str → Option Value} {base : Heap} (kx : K.In h) (G : h.Ns mainGlobals mg) (c : SaysX fa fn ts bs w K) : Fok P w K mg base "up_from" 2 ["house", "name"] f_up_from := by
  have o_row_of := ok_row_of (P := P) (w := w) (base := base) kx G c
  have g_TOP := He.str_ok kx G (c.d.fact 0 (f := .str "TOP" ("top" : Str)) rfl)
  have cl_House := He.cls_ok (c.d.fact 35 (f := .cls "House") rfl)
  have na_House_told : NoAttr K (He.ga K "House") "told" := He.eqO_ok (c.d.fact 36 (f := .noat "House" "told") rfl)
  have fl_told : ∀ z ∈ (["House"] : List Str), Cls K (He.ga K z) ∧ NoAttr K (He.ga K z) "told" := by
    intro z hz
    simp only [List.mem_cons, List.not_mem_nil, or_false] at hz
    rcases hz with rfl
    · exact ⟨cl_House, na_House_told⟩
  obtain ⟨fd, F⟩ := c.d.def_ 22 (d := d_up_from) rfl
  have b : Binds K fd ["house", "name"] [] := F.bindsN fun _ _ _ _ _ _ us hl => match us, hl with | [_, _], _ => rfl
  have nd := sc_up_from.nd
  refine ⟨fd, fn_dl (k := 1) (O' := []) F sc_up_from (by decide) fun cdv A outer s H E hr => ?_, b, F.kp, He.glo_ok kx G (c.d.fact 68 (f := .glo "up_from") rfl)⟩
  have hu64 := hu_64 hr
  have hu := hu_65 hr
  have tk := takes_of (X := cxOf (L2.CX P w) P w K mg base ["house", "name", "told"] "up_from" (defScope s_up_from) (He.ga K "up_from") cdv A outer s H E) rfl rfl rfl rfl
  have ps := passes_of (X := cxOf (L2.CX P w) P w K mg base ["house", "name", "told"] "up_from" (defScope s_up_from) (He.ga K "up_from") cdv A outer s H E) rfl
  exact (dss_one (ds_ret (de_tup (da_star (de_lc nd (blkOk_by (own := [(("told" : Str), 2)]) (by kernel_rfl)) (di_seq (de_fn o_row_of (hr.mono (by decide)) tk (da_cons (de_fld [("House" : Str)] fl_told (dv 0)) (da_cons (dv 1) da_nil)) (aCons_len (aCons_len aNil_len)))) (gok_name 2) (fun _ _ _ _ _ => ((dg_name (O := []) 2 nd)).pg) town_name (fun _ _ _ _ _ => dcs_nil) (fun _ _ _ _ _ => (de_sub hu64 (dv 2) de_int))) (da_cons (de_gstr g_TOP) da_nil)))))
theorem sc_is_fit : FnScope ["house", "one", "other"] ["house", "one", "other"] (defScope s_is_fit) := ⟨rfl, rfl, rfl, by decide +kernel, rfl, by decide +kernel, by decide +kernel⟩
theorem ok_is_fit {P : Program} {w : World} {K : PySem.W.Frag} {h : Heap} {mg : Str → Option Value} {base : Heap} (kx : K.In h) (G : h.Ns mainGlobals mg) (c : SaysX fa fn ts bs w K) : Fok P w K mg base "is_fit" 3 ["house", "one", "other"] f_is_fit := by
  have o_up_from := ok_up_from (P := P) (w := w) (base := base) kx G c
  have g_UNSET := He.str_ok kx G (c.d.fact 69 (f := .str "UNSET" ("unset" : Str)) rfl)
  have g_ODD := He.str_ok kx G (c.d.fact 70 (f := .str "ODD" ("odd" : Str)) rfl)
  have g_NUM := He.str_ok kx G (c.d.fact 13 (f := .str "NUM" ("num" : Str)) rfl)
  have g_NONE := He.str_ok kx G (c.d.fact 66 (f := .str "NONE" ("none" : Str)) rfl)
  obtain ⟨fd, F⟩ := c.d.def_ 23 (d := d_is_fit) rfl
  have b : Binds K fd ["house", "one", "other"] [] := F.bindsN fun _ _ _ _ _ _ us hl => match us, hl with | [_, _, _], _ => rfl
  have nd := sc_is_fit.nd
  refine ⟨fd, fn_dl (k := 2) (O' := []) F sc_is_fit (by decide) fun cdv A outer s H E hr => ?_, b, F.kp, He.glo_ok kx G (c.d.fact 71 (f := .glo "is_fit") rfl)⟩
  have hu64 := hu_64 hr
  have hu := hu_65 hr
  have tk := takes_of (X := cxOf (L2.CX P w) P w K mg base ["house", "one", "other"] "is_fit" (defScope s_is_fit) (He.ga K "is_fit") cdv A outer s H E) rfl rfl rfl rfl
  have ps := passes_of (X := cxOf (L2.CX P w) P w K mg base ["house", "one", "other"] "is_fit" (defScope s_is_fit) (He.ga K "is_fit") cdv A outer s H E) rfl
  exact (dss_cons (ds_if (O' := []) (dt_bool (dw_or (dt_cmp (op_eqd hu64) (dv 1) (dv 2)) (dw_or (dt_cmp (op_eqd hu64) (dv 2) (de_gstr g_UNSET)) (dw_or1 (dt_bool (dw_and (dt_cmp (op_eqd hu64) (dv 2) (de_gstr g_ODD)) (dw_and1 (dt_cmp (op_ned hu64) (dv 1) (de_gstr g_UNSET))))))))) (dss_one (ds_ret de_bl)) dss_nil)
  (dss_cons (ds_if (O' := []) (dt_bool (dw_or (dt_cmp (op_ind hu) (dv 1) (de_tup (da_cons (de_gstr g_UNSET) (da_cons (de_gstr g_ODD) (da_cons (de_gstr g_NUM) da_nil))))) (dw_or1 (dt_cmp (op_ind hu) (dv 2) (de_tup (da_cons (de_gstr g_NUM) (da_cons (de_gstr g_NONE) da_nil))))))) (dss_one (ds_ret de_bl)) dss_nil)
  (dss_one (ds_ret (de_or (de_cmp (op_eqd hu64) (dv 1) (de_gstr g_NONE)) (de_one (de_cmp (op_ind hu) (dv 2) (de_fn o_up_from (hr.mono (by decide)) tk (da_cons (dv 0) (da_cons (dv 1) da_nil)) (aCons_len (aCons_len aNil_len))))))))))
theorem sc_takes : FnScope ["house", "option", "kinds", "own", "one"] ["house", "option", "kinds"] (defScope s_takes) := ⟨rfl, rfl, rfl, by decide +kernel, rfl, by decide +kernel, by decide +kernel⟩
theorem ok_takes {P : Program} {w : World} {K : PySem.W.Frag} {h : Heap} {mg : Str → Option Value} {base : Heap} (kx : K.In h) (G : h.Ns mainGlobals mg) (c : SaysX fa fn ts bs w K) : Fok P w K mg base "takes" 4 ["house", "option", "kinds"] f_takes := by
  have o_is_fit := ok_is_fit (P := P) (w := w) (base := base) kx G c
  have h_len := He.free_ok kx G (c.d.fact 4 (f := .free "len") rfl)
  have h_all := He.free_ok kx G (c.d.fact 7 (f := .free "all") rfl)
  have h_zip := He.free_ok kx G (c.d.fact 72 (f := .free "zip") rfl)
  obtain ⟨fd, F⟩ := c.d.def_ 24 (d := d_takes) rfl
  have b : Binds K fd ["house", "option", "kinds"] [] := F.bindsN fun _ _ _ _ _ _ us hl => match us, hl with | [_, _, _], _ => rfl
  have nd := sc_takes.nd
  refine ⟨fd, fn_dl (k := 3) (O' := []) F sc_takes (by decide) fun cdv A outer s H E hr => ?_, b, F.kp, He.glo_ok kx G (c.d.fact 73 (f := .glo "takes") rfl)⟩
  have hu64 := hu_64 hr
  have hu := hu_65 hr
  have tk := takes_of (X := cxOf (L2.CX P w) P w K mg base ["house", "option", "kinds", "own", "one"] "takes" (defScope s_takes) (He.ga K "takes") cdv A outer s H E) rfl rfl rfl rfl
  have ps := passes_of (X := cxOf (L2.CX P w) P w K mg base ["house", "option", "kinds", "own", "one"] "takes" (defScope s_takes) (He.ga K "takes") cdv A outer s H E) rfl
  exact (dss_one (ds_ret (de_and (de_cmp (op_eqd hu64) (de_callB cr_len (by rfl) h_len (dab_cons (dv 1) dab_nil)) (de_callB cr_len (by rfl) h_len (dab_cons (dv 2) dab_nil))) (de_one (de_callB (cr_allD rfl) (by rfl) h_all (dab_cons (de_lc nd (blkOk_by (own := [(("own" : Str), 3), (("one" : Str), 4)]) (by kernel_rfl)) (di_zip (da_cons (dv 2) (da_cons (dv 1) da_nil)) h_zip) (gok_tup (goks_cons (gok_name 3) (goks_cons (gok_name 4) goks_nil))) (fun _ _ _ _ _ => ((dg_tup (dgs_cons (dg_name (O := []) 3 nd) (dgs_cons (dg_name (O := []) 4 nd) (dgs_nil (O := [])))))).pg) (town_tup (towns_cons town_name (towns_cons town_name towns_nil mono_name mono_nil) mono_name (mono_cons mono_name mono_nil))) (fun _ _ _ _ _ => dcs_nil) (fun _ _ _ _ _ => (de_fn o_is_fit (hr.mono (by decide)) L2.takes0 (da_cons (dv 0) (da_cons (dv 3) (da_cons (dv 4) da_nil))) (aCons_len (aCons_len (aCons_len aNil_len)))))) dab_nil))))))
theorem sc_taking : FnScope ["house", "choice", "kinds", "index", "option"] ["house", "choice", "kinds"] (defScope s_taking) := ⟨rfl, rfl, rfl, by decide +kernel, rfl, by decide +kernel, by decide +kernel⟩
theorem ok_taking {P : Program} {w : World} {K : PySem.W.Frag} {h : Heap} {mg : Str → Option Value} {base : Heap} (kx : K.In h) (G : h.Ns mainGlobals mg) (c : SaysX fa fn ts bs w K) : Fok P w K mg base "taking" 5 ["house", "choice", "kinds"] f_taking := by
  have o_takes := ok_takes (P := P) (w := w) (base := base) kx G c
  have h_enumerate := He.free_ok kx G (c.d.fact 27 (f := .free "enumerate") rfl)
  obtain ⟨fd, F⟩ := c.d.def_ 25 (d := d_taking) rfl
  have b : Binds K fd ["house", "choice", "kinds"] [] := F.bindsN fun _ _ _ _ _ _ us hl => match us, hl with | [_, _, _], _ => rfl
  have nd := sc_taking.nd
  refine ⟨fd, fn_dl (k := 4) (O' := []) F sc_taking (by decide) fun cdv A outer s H E hr => ?_, b, F.kp, He.glo_ok kx G (c.d.fact 74 (f := .glo "taking") rfl)⟩
  have hu64 := hu_64 hr
  have hu := hu_65 hr
  have tk := takes_of (X := cxOf (L2.CX P w) P w K mg base ["house", "choice", "kinds", "index", "option"] "taking" (defScope s_taking) (He.ga K "taking") cdv A outer s H E) rfl rfl rfl rfl
  have ps := passes_of (X := cxOf (L2.CX P w) P w K mg base ["house", "choice", "kinds", "index", "option"] "taking" (defScope s_taking) (He.ga K "taking") cdv A outer s H E) rfl
  exact (dss_one (ds_ret (DE.toE (de_lc nd (blkOk_by (own := [(("index" : Str), 3), (("option" : Str), 4)]) (by kernel_rfl)) (di_en (da_cons (dv 1) da_nil) h_enumerate) (gok_tup (goks_cons (gok_name 3) (goks_cons (gok_name 4) goks_nil))) (fun _ _ _ _ _ => ((dg_tup (dgs_cons (dg_name (O := []) 3 nd) (dgs_cons (dg_name (O := []) 4 nd) (dgs_nil (O := [])))))).pg) (town_tup (towns_cons town_name (towns_cons town_name towns_nil mono_name mono_nil) mono_name (mono_cons mono_name mono_nil))) (fun _ _ _ _ _ => (dcs_one (dt_val (de_fn o_takes (hr.mono (by decide)) L2.takes0 (da_cons (dv 0) (da_cons (dv 4) (da_cons (dv 2) da_nil))) (aCons_len (aCons_len (aCons_len aNil_len))))))) (fun _ _ _ _ _ => (dv 3))))))
theorem sc_takers : FnScope ["house", "choice", "kinds"] ["house", "choice", "kinds"] (defScope s_takers) := ⟨rfl, rfl, rfl, by decide +kernel, rfl, by decide +kernel, by decide +kernel⟩
theorem ok_takers {P : Program} {w : World} {K : PySem.W.Frag} {h : Heap} {mg : Str → Option Value} {base : Heap} (kx : K.In h) (G : h.Ns mainGlobals mg) (c : SaysX fa fn ts bs w K) : Fok P w K mg base "takers" 6 ["house", "choice", "kinds"] f_takers := by
  have o_need_choice := ok_need_choice (P := P) (w := w) (base := base) kx G c
  have o_need_kinds := ok_need_kinds (P := P) (w := w) (base := base) kx G c
  have o_taking := ok_taking (P := P) (w := w) (base := base) kx G c
  obtain ⟨fd, F⟩ := c.d.def_ 26 (d := d_takers) rfl
  have b : Binds K fd ["house", "choice", "kinds"] [] := F.bindsN fun _ _ _ _ _ _ us hl => match us, hl with | [_, _, _], _ => rfl
  have nd := sc_takers.nd
  refine ⟨fd, fn_dl (k := 5) (O' := []) F sc_takers (by decide) fun cdv A outer s H E hr => ?_, b, F.kp, He.glo_ok kx G (c.d.fact 75 (f := .glo "takers") rfl)⟩
  have hu64 := hu_64 hr
  have hu := hu_65 hr
  have tk := takes_of (X := cxOf (L2.CX P w) P w K mg base ["house", "choice", "kinds"] "takers" (defScope s_takers) (He.ga K "takers") cdv A outer s H E) rfl rfl rfl rfl
  have ps := passes_of (X := cxOf (L2.CX P w) P w K mg base ["house", "choice", "kinds"] "takers" (defScope s_takers) (He.ga K "takers") cdv A outer s H E) rfl
  exact (dss_cons (ds_expr (de_fn o_need_choice (hr.mono (by decide)) tk (da_cons (dv 0) (da_cons (dv 1) da_nil)) (aCons_len (aCons_len aNil_len))))
  (dss_cons (ds_expr (de_fn o_need_kinds (hr.mono (by decide)) tk (da_cons (dv 0) (da_cons (dv 2) da_nil)) (aCons_len (aCons_len aNil_len))))
  (dss_one (ds_ret (de_fn o_taking (hr.mono (by decide)) tk (da_cons (dv 0) (da_cons (dv 1) (da_cons (dv 2) da_nil))) (aCons_len (aCons_len (aCons_len aNil_len))))))))
theorem sc_need_name : FnScope ["house", "name"] ["house", "name"] (defScope s_need_name) := ⟨rfl, rfl, rfl, by decide +kernel, rfl, by decide +kernel, by decide +kernel⟩
theorem ok_need_name {P : Program} {w : World} {K : PySem.W.Frag} {h : Heap} {mg : Str → Option Value} {base : Heap} (kx : K.In h) (G : h.Ns mainGlobals mg) (c : SaysX fa fn ts bs w K) : Fok P w K mg base "need_name" 2 ["house", "name"] f_need_name := by
  have o_names_of := ok_names_of (P := P) (w := w) (base := base) kx G c
  have h_isinstance := He.free_ok kx G (c.d.fact 2 (f := .free "isinstance") rfl)
  have h_str := He.free_ok kx G (c.d.fact 6 (f := .free "str") rfl)
  have z_BadName := c.b 99 rfl
  have gz_BadName := He.glo_ok kx G (c.d.fact 51 (f := .glo "BadName") rfl)
  have cl_House := He.cls_ok (c.d.fact 35 (f := .cls "House") rfl)
  have na_House_told : NoAttr K (He.ga K "House") "told" := He.eqO_ok (c.d.fact 36 (f := .noat "House" "told") rfl)
  have fl_told : ∀ z ∈ (["House"] : List Str), Cls K (He.ga K z) ∧ NoAttr K (He.ga K z) "told" := by
    intro z hz
    simp only [List.mem_cons, List.not_mem_nil, or_false] at hz
    rcases hz with rfl
    · exact ⟨cl_House, na_House_told⟩
  obtain ⟨fd, F⟩ := c.d.def_ 27 (d := d_need_name) rfl
  have b : Binds K fd ["house", "name"] [] := F.bindsN fun _ _ _ _ _ _ us hl => match us, hl with | [_, _], _ => rfl
  have nd := sc_need_name.nd
  refine ⟨fd, fn_dl (k := 1) (O' := []) F sc_need_name (by decide) fun cdv A outer s H E hr => ?_, b, F.kp, He.glo_ok kx G (c.d.fact 76 (f := .glo "need_name") rfl)⟩
  have hu64 := hu_64 hr
  have hu := hu_65 hr
  have tk := takes_of (X := cxOf (L2.CX P w) P w K mg base ["house", "name"] "need_name" (defScope s_need_name) (He.ga K "need_name") cdv A outer s H E) rfl rfl rfl rfl
  have ps := passes_of (X := cxOf (L2.CX P w) P w K mg base ["house", "name"] "need_name" (defScope s_need_name) (He.ga K "need_name") cdv A outer s H E) rfl
  exact (dss_one (ds_if (O' := []) (dt_bool (dw_or (dt_not (dt_val (de_isi (is_str) (dv 1) (pe_bltn (by rfl) h_str (by rfl) (by rfl)) (.ty _) h_isinstance))) (dw_or1 (dt_cmp (op_notInd hu) (dv 1) (de_fn o_names_of (hr.mono (by decide)) tk (da_cons (de_fld [("House" : Str)] fl_told (dv 0)) da_nil) (aCons_len aNil_len)))))) (dss_one (ds_raise0 z_BadName gz_BadName tk)) dss_nil))
theorem sc_need_word : FnScope ["word"] ["word"] (defScope s_need_word) := ⟨rfl, rfl, rfl, by decide +kernel, rfl, by decide +kernel, by decide +kernel⟩
theorem ok_need_word {P : Program} {w : World} {K : PySem.W.Frag} {h : Heap} {mg : Str → Option Value} {base : Heap} (kx : K.In h) (G : h.Ns mainGlobals mg) (c : SaysX fa fn ts bs w K) : Fok P w K mg base "need_word" 2 ["word"] f_need_word := by
  have o_is_word := ok_is_word (P := P) (w := w) (base := base) kx G c
  have z_BadWord := c.b 100 rfl
  have gz_BadWord := He.glo_ok kx G (c.d.fact 50 (f := .glo "BadWord") rfl)
  obtain ⟨fd, F⟩ := c.d.def_ 28 (d := d_need_word) rfl
  have b : Binds K fd ["word"] [] := F.bindsN fun _ _ _ _ _ _ us hl => match us, hl with | [_], _ => rfl
  have nd := sc_need_word.nd
  refine ⟨fd, fn_dl (k := 1) (O' := []) F sc_need_word (by decide) fun cdv A outer s H E hr => ?_, b, F.kp, He.glo_ok kx G (c.d.fact 77 (f := .glo "need_word") rfl)⟩
  have hu64 := hu_64 hr
  have hu := hu_65 hr
  have tk := takes_of (X := cxOf (L2.CX P w) P w K mg base ["word"] "need_word" (defScope s_need_word) (He.ga K "need_word") cdv A outer s H E) rfl rfl rfl rfl
  have ps := passes_of (X := cxOf (L2.CX P w) P w K mg base ["word"] "need_word" (defScope s_need_word) (He.ga K "need_word") cdv A outer s H E) rfl
  exact (dss_one (ds_if (O' := []) (dt_not (dt_val (de_fn o_is_word (hr.mono (by decide)) tk (da_cons (dv 0) da_nil) (aCons_len aNil_len)))) (dss_one (ds_raise0 z_BadWord gz_BadWord tk)) dss_nil))
theorem sc_need_asked : FnScope ["house", "name", "word"] ["house", "name", "word"] (defScope s_need_asked) := ⟨rfl, rfl, rfl, by decide +kernel, rfl, by decide +kernel, by decide +kernel⟩
theorem ok_need_asked {P : Program} {w : World} {K : PySem.W.Frag} {h : Heap} {mg : Str → Option Value} {base : Heap} (kx : K.In h) (G : h.Ns mainGlobals mg) (c : SaysX fa fn ts bs w K) : Fok P w K mg base "need_asked" 3 ["house", "name", "word"] f_need_asked := by
  have o_need_house := ok_need_house (P := P) (w := w) (base := base) kx G c
  have o_need_name := ok_need_name (P := P) (w := w) (base := base) kx G c
  have o_need_word := ok_need_word (P := P) (w := w) (base := base) kx G c
  obtain ⟨fd, F⟩ := c.d.def_ 29 (d := d_need_asked) rfl
  have b : Binds K fd ["house", "name", "word"] [] := F.bindsN fun _ _ _ _ _ _ us hl => match us, hl with | [_, _, _], _ => rfl
  have nd := sc_need_asked.nd
  refine ⟨fd, fn_dl (k := 2) (O' := []) F sc_need_asked (by decide) fun cdv A outer s H E hr => ?_, b, F.kp, He.glo_ok kx G (c.d.fact 78 (f := .glo "need_asked") rfl)⟩
  have hu64 := hu_64 hr
  have hu := hu_65 hr
  have tk := takes_of (X := cxOf (L2.CX P w) P w K mg base ["house", "name", "word"] "need_asked" (defScope s_need_asked) (He.ga K "need_asked") cdv A outer s H E) rfl rfl rfl rfl
  have ps := passes_of (X := cxOf (L2.CX P w) P w K mg base ["house", "name", "word"] "need_asked" (defScope s_need_asked) (He.ga K "need_asked") cdv A outer s H E) rfl
  exact (dss_cons (ds_expr (de_fn o_need_house (hr.mono (by decide)) tk (da_cons (dv 0) da_nil) (aCons_len aNil_len)))
  (dss_cons (ds_expr (de_fn o_need_name (hr.mono (by decide)) tk (da_cons (dv 0) (da_cons (dv 1) da_nil)) (aCons_len (aCons_len aNil_len))))
  (dss_one (ds_expr (de_fn o_need_word (hr.mono (by decide)) tk (da_cons (dv 2) da_nil) (aCons_len aNil_len))))))
theorem sc_line_of : FnScope ["house", "name", "word", "told", "method"] ["house", "name", "word"] (defScope s_line_of) := ⟨rfl, rfl, rfl, by decide +kernel, rfl, by decide +kernel, by decide +kernel⟩
theorem ok_line_of {P : Program} {w : World} {K : PySem.W.Frag} {h : Heap} {mg : Str → Option Value} {base : Heap} (kx : K.In h) (G : h.Ns mainGlobals mg) (c : SaysX fa fn ts bs w K) : Fok P w K mg base "line_of" 2 ["house", "name", "word"] f_line_of := by
  have o_row_of := ok_row_of (P := P) (w := w) (base := base) kx G c
  have cl_House := He.cls_ok (c.d.fact 35 (f := .cls "House") rfl)
  have na_House_told : NoAttr K (He.ga K "House") "told" := He.eqO_ok (c.d.fact 36 (f := .noat "House" "told") rfl)
  have fl_told : ∀ z ∈ (["House"] : List Str), Cls K (He.ga K z) ∧ NoAttr K (He.ga K z) "told" := by
    intro z hz
    simp only [List.mem_cons, List.not_mem_nil, or_false] at hz
    rcases hz with rfl
    · exact ⟨cl_House, na_House_told⟩
  obtain ⟨fd, F⟩ := c.d.def_ 30 (d := d_line_of) rfl
  have b : Binds K fd ["house", "name", "word"] [] := F.bindsN fun _ _ _ _ _ _ us hl => match us, hl with | [_, _, _], _ => rfl
  have nd := sc_line_of.nd
  refine ⟨fd, fn_dl (k := 1) (O' := []) F sc_line_of (by decide) fun cdv A outer s H E hr => ?_, b, F.kp, He.glo_ok kx G (c.d.fact 79 (f := .glo "line_of") rfl)⟩
  have hu64 := hu_64 hr
  have hu := hu_65 hr
  have tk := takes_of (X := cxOf (L2.CX P w) P w K mg base ["house", "name", "word", "told", "method"] "line_of" (defScope s_line_of) (He.ga K "line_of") cdv A outer s H E) rfl rfl rfl rfl
  have ps := passes_of (X := cxOf (L2.CX P w) P w K mg base ["house", "name", "word", "told", "method"] "line_of" (defScope s_line_of) (He.ga K "line_of") cdv A outer s H E) rfl
  exact (dss_one (ds_ret (DE.toE (de_lc nd (blkOk_by (own := [(("told" : Str), 3)]) (by kernel_rfl)) (di_seq (de_fn o_row_of (hr.mono (by decide)) tk (da_cons (de_fld [("House" : Str)] fl_told (dv 0)) (da_cons (dv 1) da_nil)) (aCons_len (aCons_len aNil_len)))) (gok_name 3) (fun _ _ _ _ _ => ((dg_name (O := []) 3 nd)).pg) town_name (fun _ _ _ _ _ => (dcs_one (dt_cmp (op_ind hu) (dv 2) (de_lc nd (blkOk_by (own := [(("method" : Str), 4)]) (by kernel_rfl)) (di_seq (de_sub hu64 (dv 3) de_int)) (gok_name 4) (fun _ _ _ _ _ => ((dg_name (O := []) 4 nd)).pg) town_name (fun _ _ _ _ _ => dcs_nil) (fun _ _ _ _ _ => (de_sub hu64 (dv 4) de_int)))))) (fun _ _ _ _ _ => (de_sub hu64 (dv 3) de_int))))))
theorem sc_reached_from : FnScope ["house", "name", "word", "told"] ["house", "name", "word"] (defScope s_reached_from) := ⟨rfl, rfl, rfl, by decide +kernel, rfl, by decide +kernel, by decide +kernel⟩
theorem ok_reached_from {P : Program} {w : World} {K : PySem.W.Frag} {h : Heap} {mg : Str → Option Value} {base : Heap} (kx : K.In h) (G : h.Ns mainGlobals mg) (c : SaysX fa fn ts bs w K) : Fok P w K mg base "reached_from" 4 ["house", "name", "word"] f_reached_from := by
  have o_need_asked := ok_need_asked (P := P) (w := w) (base := base) kx G c
  have o_line_of := ok_line_of (P := P) (w := w) (base := base) kx G c
  have h_tuple := He.free_ok kx G (c.d.fact 3 (f := .free "tuple") rfl)
  have g_TOP := He.str_ok kx G (c.d.fact 0 (f := .str "TOP" ("top" : Str)) rfl)
  have z_NotOwn := c.b 101 rfl
  have gz_NotOwn := He.glo_ok kx G (c.d.fact 53 (f := .glo "NotOwn") rfl)
  have cl_House := He.cls_ok (c.d.fact 35 (f := .cls "House") rfl)
  have na_House_told : NoAttr K (He.ga K "House") "told" := He.eqO_ok (c.d.fact 36 (f := .noat "House" "told") rfl)
  have fl_told : ∀ z ∈ (["House"] : List Str), Cls K (He.ga K z) ∧ NoAttr K (He.ga K z) "told" := by
    intro z hz
    simp only [List.mem_cons, List.not_mem_nil, or_false] at hz
    rcases hz with rfl
    · exact ⟨cl_House, na_House_told⟩
  obtain ⟨fd, F⟩ := c.d.def_ 31 (d := d_reached_from) rfl
  have b : Binds K fd ["house", "name", "word"] [] := F.bindsN fun _ _ _ _ _ _ us hl => match us, hl with | [_, _, _], _ => rfl
  have nd := sc_reached_from.nd
  refine ⟨fd, fn_dl (k := 3) (O' := []) F sc_reached_from (by decide) fun cdv A outer s H E hr => ?_, b, F.kp, He.glo_ok kx G (c.d.fact 80 (f := .glo "reached_from") rfl)⟩
  have hu64 := hu_64 hr
  have hu := hu_65 hr
  have tk := takes_of (X := cxOf (L2.CX P w) P w K mg base ["house", "name", "word", "told"] "reached_from" (defScope s_reached_from) (He.ga K "reached_from") cdv A outer s H E) rfl rfl rfl rfl
  have ps := passes_of (X := cxOf (L2.CX P w) P w K mg base ["house", "name", "word", "told"] "reached_from" (defScope s_reached_from) (He.ga K "reached_from") cdv A outer s H E) rfl
  exact (dss_cons (ds_expr (de_fn o_need_asked (hr.mono (by decide)) tk (da_cons (dv 0) (da_cons (dv 1) (da_cons (dv 2) da_nil))) (aCons_len (aCons_len (aCons_len aNil_len)))))
  (dss_cons (ds_if (O' := []) (dt_bool (dw_or (dt_cmp (op_ned hu64) (de_sl (de_fn o_line_of (hr.mono (by decide)) tk (da_cons (dv 0) (da_cons (dv 1) (da_cons (dv 2) da_nil))) (aCons_len (aCons_len (aCons_len aNil_len)))) do_none (do_some de_int)) (de_lst (da_cons (dv 1) da_nil))) (dw_or1 (dt_cmp (op_eqd hu64) (dv 1) (de_gstr g_TOP))))) (dss_one (ds_raise0 z_NotOwn gz_NotOwn tk)) dss_nil)
  (dss_one (ds_ret (de_callTy cr_tup (by rfl) h_tuple (dab_cons (de_lc nd (blkOk_by (own := [(("told" : Str), 3)]) (by kernel_rfl)) (di_seq (de_fld [("House" : Str)] fl_told (dv 0))) (gok_name 3) (fun _ _ _ _ _ => ((dg_name (O := []) 3 nd)).pg) town_name (fun _ _ _ _ _ => (dcs_one (dt_cmp (op_eqd hu64) (de_sl (de_fn o_line_of (hr.mono (by decide)) L2.takes0 (da_cons (dv 0) (da_cons (de_sub hu64 (dv 3) de_int) (da_cons (dv 2) da_nil))) (aCons_len (aCons_len (aCons_len aNil_len)))) do_none (do_some de_int)) (de_lst (da_cons (dv 1) da_nil))))) (fun _ _ _ _ _ => (de_sub hu64 (dv 3) de_int))) dab_nil))))))
theorem sc_row_made : FnScope ["house", "name", "found", "told", "own", "known", "method", "word", "holder"] ["house", "name"] (defScope s_row_made) := ⟨rfl, rfl, rfl, by decide +kernel, rfl, by decide +kernel, by decide +kernel⟩
theorem ok_row_made {P : Program} {w : World} {K : PySem.W.Frag} {h : Heap} {mg : Str → Option Value} {base : Heap} (kx : K.In h) (G : h.Ns mainGlobals mg) (c : SaysX fa fn ts bs w K) : Fok P w K mg base "row_made" 2 ["house", "name"] f_row_made := by
  have o_row_of := ok_row_of (P := P) (w := w) (base := base) kx G c
  have h_tuple := He.free_ok kx G (c.d.fact 3 (f := .free "tuple") rfl)
  have cl_House := He.cls_ok (c.d.fact 35 (f := .cls "House") rfl)
  have na_House_told : NoAttr K (He.ga K "House") "told" := He.eqO_ok (c.d.fact 36 (f := .noat "House" "told") rfl)
  have fl_told : ∀ z ∈ (["House"] : List Str), Cls K (He.ga K z) ∧ NoAttr K (He.ga K z) "told" := by
    intro z hz
    simp only [List.mem_cons, List.not_mem_nil, or_false] at hz
    rcases hz with rfl
    · exact ⟨cl_House, na_House_told⟩
  obtain ⟨fd, F⟩ := c.d.def_ 32 (d := d_row_made) rfl
  have b : Binds K fd ["house", "name"] [] := F.bindsN fun _ _ _ _ _ _ us hl => match us, hl with | [_, _], _ => rfl
  have nd := sc_row_made.nd
  refine ⟨fd, fn_dl (k := 1) (O' := []) F sc_row_made (by decide) fun cdv A outer s H E hr => ?_, b, F.kp, He.glo_ok kx G (c.d.fact 81 (f := .glo "row_made") rfl)⟩
  have hu64 := hu_64 hr
  have hu := hu_65 hr
  have tk := takes_of (X := cxOf (L2.CX P w) P w K mg base ["house", "name", "found", "told", "own", "known", "method", "word", "holder"] "row_made" (defScope s_row_made) (He.ga K "row_made") cdv A outer s H E) rfl rfl rfl rfl
  have ps := passes_of (X := cxOf (L2.CX P w) P w K mg base ["house", "name", "found", "told", "own", "known", "method", "word", "holder"] "row_made" (defScope s_row_made) (He.ga K "row_made") cdv A outer s H E) rfl
  exact (dss_cons (ds_set 2 (DE.toE (de_lst da_nil)) nd)
  (dss_cons (ds_for ps (di_seq (de_revA (de_fn o_row_of (hr.mono (by decide)) tk (da_cons (de_fld [("House" : Str)] fl_told (dv 0)) (da_cons (dv 1) da_nil)) (aCons_len (aCons_len aNil_len))))) (dg_name 3 nd) (dss_cons (ds_set 4 (DE.toE (de_lc nd (blkOk_by (own := [(("method" : Str), 6)]) (by kernel_rfl)) (di_seq (de_sub hu64 (dv 3) de_int)) (gok_name 6) (fun _ _ _ _ _ => ((dg_name (O := []) 6 nd)).pg) town_name (fun _ _ _ _ _ => dcs_nil) (fun _ _ _ _ _ => (de_sub hu64 (dv 6) de_int)))) nd)
  (dss_cons (ds_lcSet 2 nd (blkOk_by (own := [(("word" : Str), 7), (("holder" : Str), 8)]) (by kernel_rfl)) (di_seq (dv 2)) (gok_tup (goks_cons (gok_name 7) (goks_cons (gok_name 8) goks_nil))) (fun _ _ _ _ _ => ((dg_tup (dgs_cons (dg_name (O := []) 7 nd) (dgs_cons (dg_name (O := []) 8 nd) (dgs_nil (O := [])))))).pg) (town_tup (towns_cons town_name (towns_cons town_name towns_nil mono_name mono_nil) mono_name (mono_cons mono_name mono_nil))) (fun _ _ _ _ _ => dcs_nil) (fun _ _ _ _ _ => (de_tup (da_cons (dv 7) (da_cons (de_ifx (k := .e) (dt_cmp (op_ind hu) (dv 7) (dv 4)) (de_sub hu64 (dv 3) de_int) (dv 8)) da_nil)))) (by rfl))
  (dss_cons (ds_set 5 (DE.toE (de_lc nd (blkOk_by (own := [(("word" : Str), 7), (("holder" : Str), 8)]) (by kernel_rfl)) (di_seq (dv 2)) (gok_tup (goks_cons (gok_name 7) (goks_cons (gok_name 8) goks_nil))) (fun _ _ _ _ _ => ((dg_tup (dgs_cons (dg_name (O := []) 7 nd) (dgs_cons (dg_name (O := []) 8 nd) (dgs_nil (O := [])))))).pg) (town_tup (towns_cons town_name (towns_cons town_name towns_nil mono_name mono_nil) mono_name (mono_cons mono_name mono_nil))) (fun _ _ _ _ _ => dcs_nil) (fun _ _ _ _ _ => (dv 7)))) nd)
  (dss_one (ds_set 2 (de_bin op_addd (dv 2) (de_lc nd (blkOk_by (own := [(("word" : Str), 7)]) (by kernel_rfl)) (di_seq (dv 4)) (gok_name 7) (fun _ _ _ _ _ => ((dg_name (O := []) 7 nd)).pg) town_name (fun _ _ _ _ _ => (dcs_one (dt_cmp (op_notInd hu) (dv 7) (dv 5)))) (fun _ _ _ _ _ => (de_tup (da_cons (dv 7) (da_cons (de_sub hu64 (dv 3) de_int) da_nil)))))) nd))))))
  (dss_one (ds_ret (de_callTy cr_tup (by rfl) h_tuple (dab_cons (dv 2) dab_nil))))))
theorem sc_method_row : FnScope ["house", "name"] ["house", "name"] (defScope s_method_row) := ⟨rfl, rfl, rfl, by decide +kernel, rfl, by decide +kernel, by decide +kernel⟩
theorem ok_method_row {P : Program} {w : World} {K : PySem.W.Frag} {h : Heap} {mg : Str → Option Value} {base : Heap} (kx : K.In h) (G : h.Ns mainGlobals mg) (c : SaysX fa fn ts bs w K) : Fok P w K mg base "method_row" 3 ["house", "name"] f_method_row := by
  have o_need_house := ok_need_house (P := P) (w := w) (base := base) kx G c
  have o_need_name := ok_need_name (P := P) (w := w) (base := base) kx G c
  have o_row_made := ok_row_made (P := P) (w := w) (base := base) kx G c
  obtain ⟨fd, F⟩ := c.d.def_ 33 (d := d_method_row) rfl
  have b : Binds K fd ["house", "name"] [] := F.bindsN fun _ _ _ _ _ _ us hl => match us, hl with | [_, _], _ => rfl
  have nd := sc_method_row.nd
  refine ⟨fd, fn_dl (k := 2) (O' := []) F sc_method_row (by decide) fun cdv A outer s H E hr => ?_, b, F.kp, He.glo_ok kx G (c.d.fact 82 (f := .glo "method_row") rfl)⟩
  have hu64 := hu_64 hr
  have hu := hu_65 hr
  have tk := takes_of (X := cxOf (L2.CX P w) P w K mg base ["house", "name"] "method_row" (defScope s_method_row) (He.ga K "method_row") cdv A outer s H E) rfl rfl rfl rfl
  have ps := passes_of (X := cxOf (L2.CX P w) P w K mg base ["house", "name"] "method_row" (defScope s_method_row) (He.ga K "method_row") cdv A outer s H E) rfl
  exact (dss_cons (ds_expr (de_fn o_need_house (hr.mono (by decide)) tk (da_cons (dv 0) da_nil) (aCons_len aNil_len)))
  (dss_cons (ds_expr (de_fn o_need_name (hr.mono (by decide)) tk (da_cons (dv 0) (da_cons (dv 1) da_nil)) (aCons_len (aCons_len aNil_len))))
  (dss_one (ds_ret (de_fn o_row_made (hr.mono (by decide)) tk (da_cons (dv 0) (da_cons (dv 1) da_nil)) (aCons_len (aCons_len aNil_len)))))))
theorem sc_words_seen : FnScope ["house", "name", "method", "told"] ["house", "name"] (defScope s_words_seen) := ⟨rfl, rfl, rfl, by decide +kernel, rfl, by decide +kernel, by decide +kernel⟩
theorem ok_words_seen {P : Program} {w : World} {K : PySem.W.Frag} {h : Heap} {mg : Str → Option Value} {base : Heap} (kx : K.In h) (G : h.Ns mainGlobals mg) (c : SaysX fa fn ts bs w K) : Fok P w K mg base "words_seen" 2 ["house", "name"] f_words_seen := by
  have o_row_of := ok_row_of (P := P) (w := w) (base := base) kx G c
  have cl_House := He.cls_ok (c.d.fact 35 (f := .cls "House") rfl)
  have na_House_told : NoAttr K (He.ga K "House") "told" := He.eqO_ok (c.d.fact 36 (f := .noat "House" "told") rfl)
  have fl_told : ∀ z ∈ (["House"] : List Str), Cls K (He.ga K z) ∧ NoAttr K (He.ga K z) "told" := by
    intro z hz
    simp only [List.mem_cons, List.not_mem_nil, or_false] at hz
    rcases hz with rfl
    · exact ⟨cl_House, na_House_told⟩
  obtain ⟨fd, F⟩ := c.d.def_ 34 (d := d_words_seen) rfl
  have b : Binds K fd ["house", "name"] [] := F.bindsN fun _ _ _ _ _ _ us hl => match us, hl with | [_, _], _ => rfl
  have nd := sc_words_seen.nd
  refine ⟨fd, fn_dl (k := 1) (O' := []) F sc_words_seen (by decide) fun cdv A outer s H E hr => ?_, b, F.kp, He.glo_ok kx G (c.d.fact 83 (f := .glo "words_seen") rfl)⟩
  have hu64 := hu_64 hr
  have hu := hu_65 hr
  have tk := takes_of (X := cxOf (L2.CX P w) P w K mg base ["house", "name", "method", "told"] "words_seen" (defScope s_words_seen) (He.ga K "words_seen") cdv A outer s H E) rfl rfl rfl rfl
  have ps := passes_of (X := cxOf (L2.CX P w) P w K mg base ["house", "name", "method", "told"] "words_seen" (defScope s_words_seen) (He.ga K "words_seen") cdv A outer s H E) rfl
  exact (dss_one (ds_ret (DE.toE (de_dc2 nd (blkOk_by (own := [(("told" : Str), 3), (("method" : Str), 2)]) (by kernel_rfl)) (vs1 := [2]) (by decide) (di_seq (de_fn o_row_of (hr.mono (by decide)) tk (da_cons (de_fld [("House" : Str)] fl_told (dv 0)) (da_cons (dv 1) da_nil)) (aCons_len (aCons_len aNil_len)))) (gok_name 3) (fun _ _ _ _ _ => ((dg_name (O := []) 3 nd)).pg) town_name (fun _ _ _ _ _ => dcs_nil) (fun _ _ _ _ _ => (di_seq (de_sub hu64 (dv 3) de_int))) (gok_name 2) (fun _ _ _ _ _ => ((dg_name (O := []) 2 nd)).pg) town_name (fun _ _ _ _ _ => dcs_nil) (fun _ _ _ _ _ => (de_sub hu64 (dv 2) de_int)) (fun _ _ _ _ _ => de_bl)))))
theorem sc_shared : FnScope ["house", "names", "lists", "name", "word", "seen"] ["house", "names"] (defScope s_shared) := ⟨rfl, rfl, rfl, by decide +kernel, rfl, by decide +kernel, by decide +kernel⟩
theorem ok_shared {P : Program} {w : World} {K : PySem.W.Frag} {h : Heap} {mg : Str → Option Value} {base : Heap} (kx : K.In h) (G : h.Ns mainGlobals mg) (c : SaysX fa fn ts bs w K) : Fok P w K mg base "shared" 3 ["house", "names"] f_shared := by
  have o_words_seen := ok_words_seen (P := P) (w := w) (base := base) kx G c
  have h_tuple := He.free_ok kx G (c.d.fact 3 (f := .free "tuple") rfl)
  have h_sorted := He.free_ok kx G (c.d.fact 84 (f := .free "sorted") rfl)
  have h_all := He.free_ok kx G (c.d.fact 7 (f := .free "all") rfl)
  obtain ⟨fd, F⟩ := c.d.def_ 35 (d := d_shared) rfl
  have b : Binds K fd ["house", "names"] [] := F.bindsN fun _ _ _ _ _ _ us hl => match us, hl with | [_, _], _ => rfl
  have nd := sc_shared.nd
  refine ⟨fd, fn_dl (k := 2) (O' := []) F sc_shared (by decide) fun cdv A outer s H E hr => ?_, b, F.kp, He.glo_ok kx G (c.d.fact 85 (f := .glo "shared") rfl)⟩
  have hu64 := hu_64 hr
  have hu := hu_65 hr
  have tk := takes_of (X := cxOf (L2.CX P w) P w K mg base ["house", "names", "lists", "name", "word", "seen"] "shared" (defScope s_shared) (He.ga K "shared") cdv A outer s H E) rfl rfl rfl rfl
  have ps := passes_of (X := cxOf (L2.CX P w) P w K mg base ["house", "names", "lists", "name", "word", "seen"] "shared" (defScope s_shared) (He.ga K "shared") cdv A outer s H E) rfl
  exact (dss_cons (ds_set 2 (DE.toE (de_lc nd (blkOk_by (own := [(("name" : Str), 3)]) (by kernel_rfl)) (di_seq (dv 1)) (gok_name 3) (fun _ _ _ _ _ => ((dg_name (O := []) 3 nd)).pg) town_name (fun _ _ _ _ _ => dcs_nil) (fun _ _ _ _ _ => (de_fn o_words_seen (hr.mono (by decide)) L2.takes0 (da_cons (dv 0) (da_cons (dv 3) da_nil)) (aCons_len (aCons_len aNil_len)))))) nd)
  (dss_one (ds_ret (de_callTy cr_tup (by rfl) h_tuple (dab_cons (de_callB (cr_sortK rfl hu64) (by rfl) h_sorted (dab_cons (de_lcKd 2 rfl nd (blkOk_by (own := [(("word" : Str), 4)]) (by kernel_rfl)) (gok_name 4) (fun _ _ _ _ _ => ((dg_name (O := []) 4 nd)).pg) town_name (fun _ _ _ _ _ => (dcs_one (dt_val (de_callB (cr_allD rfl) (by rfl) h_all (dab_cons (de_lc nd (blkOk_by (own := [(("seen" : Str), 5)]) (by kernel_rfl)) (di_seq (dv 2)) (gok_name 5) (fun _ _ _ _ _ => ((dg_name (O := []) 5 nd)).pg) town_name (fun _ _ _ _ _ => dcs_nil) (fun _ _ _ _ _ => (de_cmp (op_ind hu) (dv 4) (dv 5)))) dab_nil))))) (fun _ _ _ _ _ => (dv 4))) dab_nil)) dab_nil)))))
theorem sc_seen_by_all : FnScope ["house", "names", "name"] ["house", "names"] (defScope s_seen_by_all) := ⟨rfl, rfl, rfl, by decide +kernel, rfl, by decide +kernel, by decide +kernel⟩
theorem ok_seen_by_all {P : Program} {w : World} {K : PySem.W.Frag} {h : Heap} {mg : Str → Option Value} {base : Heap} (kx : K.In h) (G : h.Ns mainGlobals mg) (c : SaysX fa fn ts bs w K) : Fok P w K mg base "seen_by_all" 4 ["house", "names"] f_seen_by_all := by
  have o_need_house := ok_need_house (P := P) (w := w) (base := base) kx G c
  have o_names_of := ok_names_of (P := P) (w := w) (base := base) kx G c
  have o_shared := ok_shared (P := P) (w := w) (base := base) kx G c
  have h_isinstance := He.free_ok kx G (c.d.fact 2 (f := .free "isinstance") rfl)
  have h_tuple := He.free_ok kx G (c.d.fact 3 (f := .free "tuple") rfl)
  have h_all := He.free_ok kx G (c.d.fact 7 (f := .free "all") rfl)
  have h_str := He.free_ok kx G (c.d.fact 6 (f := .free "str") rfl)
  have h_len := He.free_ok kx G (c.d.fact 4 (f := .free "len") rfl)
  have h_set := He.free_ok kx G (c.d.fact 86 (f := .free "set") rfl)
  have z_BadNames := c.b 102 rfl
  have gz_BadNames := He.glo_ok kx G (c.d.fact 56 (f := .glo "BadNames") rfl)
  have cl_House := He.cls_ok (c.d.fact 35 (f := .cls "House") rfl)
  have na_House_told : NoAttr K (He.ga K "House") "told" := He.eqO_ok (c.d.fact 36 (f := .noat "House" "told") rfl)
  have fl_told : ∀ z ∈ (["House"] : List Str), Cls K (He.ga K z) ∧ NoAttr K (He.ga K z) "told" := by
    intro z hz
    simp only [List.mem_cons, List.not_mem_nil, or_false] at hz
    rcases hz with rfl
    · exact ⟨cl_House, na_House_told⟩
  obtain ⟨fd, F⟩ := c.d.def_ 36 (d := d_seen_by_all) rfl
  have b : Binds K fd ["house", "names"] [] := F.bindsN fun _ _ _ _ _ _ us hl => match us, hl with | [_, _], _ => rfl
  have nd := sc_seen_by_all.nd
  refine ⟨fd, fn_dl (k := 3) (O' := []) F sc_seen_by_all (by decide) fun cdv A outer s H E hr => ?_, b, F.kp, He.glo_ok kx G (c.d.fact 87 (f := .glo "seen_by_all") rfl)⟩
  have hu64 := hu_64 hr
  have hu := hu_65 hr
  have tk := takes_of (X := cxOf (L2.CX P w) P w K mg base ["house", "names", "name"] "seen_by_all" (defScope s_seen_by_all) (He.ga K "seen_by_all") cdv A outer s H E) rfl rfl rfl rfl
  have ps := passes_of (X := cxOf (L2.CX P w) P w K mg base ["house", "names", "name"] "seen_by_all" (defScope s_seen_by_all) (He.ga K "seen_by_all") cdv A outer s H E) rfl
  exact (dss_cons (ds_expr (de_fn o_need_house (hr.mono (by decide)) tk (da_cons (dv 0) da_nil) (aCons_len aNil_len)))
  (dss_cons (ds_if (O' := []) (dt_bool (dw_or (dt_not (dt_val (de_isi (is_tuple) (dv 1) (pe_bltn (by rfl) h_tuple (by rfl) (by rfl)) (.ty _) h_isinstance))) (dw_or (dt_cmp (op_eqe hu64) (dv 1) (de_tup da_nil)) (dw_or1 (dt_not (dt_val (de_callB (cr_allD rfl) (by rfl) h_all (dab_cons (de_lc nd (blkOk_by (own := [(("name" : Str), 2)]) (by kernel_rfl)) (di_seq (dv 1)) (gok_name 2) (fun _ _ _ _ _ => ((dg_name (O := []) 2 nd)).pg) town_name (fun _ _ _ _ _ => dcs_nil) (fun _ _ _ _ _ => (de_isi (is_str) (dv 2) (pe_bltn (by rfl) h_str (by rfl) (by rfl)) (.ty _) h_isinstance))) dab_nil)))))))) (dss_one (ds_raise0 z_BadNames gz_BadNames tk)) dss_nil)
  (dss_cons (ds_if (O' := []) (dt_bool (dw_or (dt_not (dt_val (de_callB (cr_allD rfl) (by rfl) h_all (dab_cons (de_lc nd (blkOk_by (own := [(("name" : Str), 2)]) (by kernel_rfl)) (di_seq (dv 1)) (gok_name 2) (fun _ _ _ _ _ => ((dg_name (O := []) 2 nd)).pg) town_name (fun _ _ _ _ _ => dcs_nil) (fun _ _ _ _ _ => (de_cmp (op_ind hu) (dv 2) (de_fn o_names_of (hr.mono (by decide)) L2.takes0 (da_cons (de_fld [("House" : Str)] fl_told (dv 0)) da_nil) (aCons_len aNil_len))))) dab_nil)))) (dw_or1 (dt_cmp (op_ned hu64) (de_lenSetA rfl h_len h_set (dv 1)) (de_callB cr_len (by rfl) h_len (dab_cons (dv 1) dab_nil)))))) (dss_one (ds_raise0 z_BadNames gz_BadNames tk)) dss_nil)
  (dss_one (ds_ret (de_fn o_shared (hr.mono (by decide)) tk (da_cons (dv 0) (da_cons (dv 1) da_nil)) (aCons_len (aCons_len aNil_len))))))))
theorem sc_targets_of : FnScope ["house", "name", "word", "found", "other", "line", "told"] ["house", "name", "word"] (defScope s_targets_of) := ⟨rfl, rfl, rfl, by decide +kernel, rfl, by decide +kernel, by decide +kernel⟩
theorem ok_targets_of {P : Program} {w : World} {K : PySem.W.Frag} {h : Heap} {mg : Str → Option Value} {base : Heap} (kx : K.In h) (G : h.Ns mainGlobals mg) (c : SaysX fa fn ts bs w K) : Fok P w K mg base "targets_of" 3 ["house", "name", "word"] f_targets_of := by
  have o_names_of := ok_names_of (P := P) (w := w) (base := base) kx G c
  have o_up_from := ok_up_from (P := P) (w := w) (base := base) kx G c
  have o_line_of := ok_line_of (P := P) (w := w) (base := base) kx G c
  have h_tuple := He.free_ok kx G (c.d.fact 3 (f := .free "tuple") rfl)
  have cl_House := He.cls_ok (c.d.fact 35 (f := .cls "House") rfl)
  have na_House_told : NoAttr K (He.ga K "House") "told" := He.eqO_ok (c.d.fact 36 (f := .noat "House" "told") rfl)
  have fl_told : ∀ z ∈ (["House"] : List Str), Cls K (He.ga K z) ∧ NoAttr K (He.ga K z) "told" := by
    intro z hz
    simp only [List.mem_cons, List.not_mem_nil, or_false] at hz
    rcases hz with rfl
    · exact ⟨cl_House, na_House_told⟩
  obtain ⟨fd, F⟩ := c.d.def_ 37 (d := d_targets_of) rfl
  have b : Binds K fd ["house", "name", "word"] [] := F.bindsN fun _ _ _ _ _ _ us hl => match us, hl with | [_, _, _], _ => rfl
  have nd := sc_targets_of.nd
  refine ⟨fd, fn_dl (k := 2) (O' := []) F sc_targets_of (by decide) fun cdv A outer s H E hr => ?_, b, F.kp, He.glo_ok kx G (c.d.fact 88 (f := .glo "targets_of") rfl)⟩
  have hu64 := hu_64 hr
  have hu := hu_65 hr
  have tk := takes_of (X := cxOf (L2.CX P w) P w K mg base ["house", "name", "word", "found", "other", "line", "told"] "targets_of" (defScope s_targets_of) (He.ga K "targets_of") cdv A outer s H E) rfl rfl rfl rfl
  have ps := passes_of (X := cxOf (L2.CX P w) P w K mg base ["house", "name", "word", "found", "other", "line", "told"] "targets_of" (defScope s_targets_of) (He.ga K "targets_of") cdv A outer s H E) rfl
  exact (dss_cons (ds_own 3 de_newK nd)
  (dss_cons (ds_for ps (di_seq (de_fn o_names_of (hr.mono (by decide)) tk (da_cons (de_fld [("House" : Str)] fl_told (dv 0)) da_nil) (aCons_len aNil_len))) (dg_name 4 nd) (dss_cons (ds_set 5 (de_ifx (k := .e) (dt_cmp (op_ind hu) (dv 1) (de_fn o_up_from (hr.mono (by decide)) tk (da_cons (dv 0) (da_cons (dv 4) da_nil)) (aCons_len (aCons_len aNil_len)))) (de_fn o_line_of (hr.mono (by decide)) tk (da_cons (dv 0) (da_cons (dv 4) (da_cons (dv 2) da_nil))) (aCons_len (aCons_len (aCons_len aNil_len)))) (DE.toE (de_lst da_nil))) nd)
  (dss_one (ds_if (O' := [3]) (dt_cmp (op_ned hu64) (dv 5) (de_lst da_nil)) (dss_one (ds_put 3 hu64 (de_sub hu64 (dv 5) de_int) de_bl)) dss_nil))))
  (dss_one (ds_ret (de_callTy cr_tup (by rfl) h_tuple (dab_cons (de_lc nd (blkOk_by (own := [(("told" : Str), 6)]) (by kernel_rfl)) (di_seq (de_fld [("House" : Str)] fl_told (dv 0))) (gok_name 6) (fun _ _ _ _ _ => ((dg_name (O := []) 6 nd)).pg) town_name (fun _ _ _ _ _ => (dcs_one (dt_cmp (op_ind hu) (de_sub hu64 (dv 6) de_int) (dvb 3)))) (fun _ _ _ _ _ => (de_sub hu64 (dv 6) de_int))) dab_nil))))))
theorem sc_widest_call : FnScope ["house", "words", "best", "name", "word", "many", "method", "told"] ["house"] (defScope s_widest_call) := ⟨rfl, rfl, rfl, by decide +kernel, rfl, by decide +kernel, by decide +kernel⟩
theorem ok_widest_call {P : Program} {w : World} {K : PySem.W.Frag} {h : Heap} {mg : Str → Option Value} {base : Heap} (kx : K.In h) (G : h.Ns mainGlobals mg) (c : SaysX fa fn ts bs w K) : Fok P w K mg base "widest_call" 4 ["house"] f_widest_call := by
  have o_need_house := ok_need_house (P := P) (w := w) (base := base) kx G c
  have o_names_of := ok_names_of (P := P) (w := w) (base := base) kx G c
  have o_targets_of := ok_targets_of (P := P) (w := w) (base := base) kx G c
  have h_sorted := He.free_ok kx G (c.d.fact 84 (f := .free "sorted") rfl)
  have h_len := He.free_ok kx G (c.d.fact 4 (f := .free "len") rfl)
  have cl_House := He.cls_ok (c.d.fact 35 (f := .cls "House") rfl)
  have na_House_told : NoAttr K (He.ga K "House") "told" := He.eqO_ok (c.d.fact 36 (f := .noat "House" "told") rfl)
  have fl_told : ∀ z ∈ (["House"] : List Str), Cls K (He.ga K z) ∧ NoAttr K (He.ga K z) "told" := by
    intro z hz
    simp only [List.mem_cons, List.not_mem_nil, or_false] at hz
    rcases hz with rfl
    · exact ⟨cl_House, na_House_told⟩
  obtain ⟨fd, F⟩ := c.d.def_ 38 (d := d_widest_call) rfl
  have b : Binds K fd ["house"] [] := F.bindsN fun _ _ _ _ _ _ us hl => match us, hl with | [_], _ => rfl
  have nd := sc_widest_call.nd
  refine ⟨fd, fn_dl (k := 3) (O' := []) F sc_widest_call (by decide) fun cdv A outer s H E hr => ?_, b, F.kp, He.glo_ok kx G (c.d.fact 89 (f := .glo "widest_call") rfl)⟩
  have hu64 := hu_64 hr
  have hu := hu_65 hr
  have tk := takes_of (X := cxOf (L2.CX P w) P w K mg base ["house", "words", "best", "name", "word", "many", "method", "told"] "widest_call" (defScope s_widest_call) (He.ga K "widest_call") cdv A outer s H E) rfl rfl rfl rfl
  have ps := passes_of (X := cxOf (L2.CX P w) P w K mg base ["house", "words", "best", "name", "word", "many", "method", "told"] "widest_call" (defScope s_widest_call) (He.ga K "widest_call") cdv A outer s H E) rfl
  exact (dss_cons (ds_expr (de_fn o_need_house (hr.mono (by decide)) tk (da_cons (dv 0) da_nil) (aCons_len aNil_len)))
  (dss_cons (ds_set 1 (DE.toE (de_callB (cr_sortK rfl hu64) (by rfl) h_sorted (dab_cons (de_dc2 nd (blkOk_by (own := [(("told" : Str), 7), (("method" : Str), 6)]) (by kernel_rfl)) (vs1 := [6]) (by decide) (di_seq (de_fld [("House" : Str)] fl_told (dv 0))) (gok_name 7) (fun _ _ _ _ _ => ((dg_name (O := []) 7 nd)).pg) town_name (fun _ _ _ _ _ => dcs_nil) (fun _ _ _ _ _ => (di_seq (de_sub hu64 (dv 7) de_int))) (gok_name 6) (fun _ _ _ _ _ => ((dg_name (O := []) 6 nd)).pg) town_name (fun _ _ _ _ _ => dcs_nil) (fun _ _ _ _ _ => (de_sub hu64 (dv 6) de_int)) (fun _ _ _ _ _ => de_bl)) dab_nil))) nd)
  (dss_cons (ds_set 2 de_non nd)
  (dss_cons (ds_for ps (di_seq (de_sl (de_fn o_names_of (hr.mono (by decide)) tk (da_cons (de_fld [("House" : Str)] fl_told (dv 0)) da_nil) (aCons_len aNil_len)) (do_some de_int) do_none)) (dg_name 3 nd) (dss_one (ds_for ps (di_seq (dv 1)) (dg_name 4 nd) (dss_cons (ds_set 5 (de_callB cr_len (by rfl) h_len (dab_cons (de_fn o_targets_of (hr.mono (by decide)) tk (da_cons (dv 0) (da_cons (dv 3) (da_cons (dv 4) da_nil))) (aCons_len (aCons_len (aCons_len aNil_len)))) dab_nil)) nd)
  (dss_one (ds_if (O' := []) (dt_bool (dw_and (dt_cmp (op_gtd) (dv 5) de_int) (dw_and1 (dt_bool (dw_or (dt_isN (dv 2)) (dw_or1 (dt_cmp (op_gtd) (dv 5) (de_sub hu64 (dv 2) de_int)))))))) (dss_one (ds_set 2 (de_tup (da_cons (dv 5) (da_cons (dv 3) (da_cons (dv 4) da_nil)))) nd)) dss_nil))))))
  (dss_one (ds_ret (dv 2)))))))
theorem sc_every_word : FnScope ["house", "method", "told"] ["house"] (defScope s_every_word) := ⟨rfl, rfl, rfl, by decide +kernel, rfl, by decide +kernel, by decide +kernel⟩
theorem ok_every_word {P : Program} {w : World} {K : PySem.W.Frag} {h : Heap} {mg : Str → Option Value} {base : Heap} (kx : K.In h) (G : h.Ns mainGlobals mg) (c : SaysX fa fn ts bs w K) : Fok P w K mg base "every_word" 1 ["house"] f_every_word := by
  have h_tuple := He.free_ok kx G (c.d.fact 3 (f := .free "tuple") rfl)
  have h_sorted := He.free_ok kx G (c.d.fact 84 (f := .free "sorted") rfl)
  have cl_House := He.cls_ok (c.d.fact 35 (f := .cls "House") rfl)
  have na_House_told : NoAttr K (He.ga K "House") "told" := He.eqO_ok (c.d.fact 36 (f := .noat "House" "told") rfl)
  have fl_told : ∀ z ∈ (["House"] : List Str), Cls K (He.ga K z) ∧ NoAttr K (He.ga K z) "told" := by
    intro z hz
    simp only [List.mem_cons, List.not_mem_nil, or_false] at hz
    rcases hz with rfl
    · exact ⟨cl_House, na_House_told⟩
  obtain ⟨fd, F⟩ := c.d.def_ 39 (d := d_every_word) rfl
  have b : Binds K fd ["house"] [] := F.bindsN fun _ _ _ _ _ _ us hl => match us, hl with | [_], _ => rfl
  have nd := sc_every_word.nd
  refine ⟨fd, fn_dl (k := 0) (O' := []) F sc_every_word (by decide) fun cdv A outer s H E hr => ?_, b, F.kp, He.glo_ok kx G (c.d.fact 90 (f := .glo "every_word") rfl)⟩
  have hu64 := hu_64 hr
  have hu := hu_65 hr
  have tk := takes_of (X := cxOf (L2.CX P w) P w K mg base ["house", "method", "told"] "every_word" (defScope s_every_word) (He.ga K "every_word") cdv A outer s H E) rfl rfl rfl rfl
  have ps := passes_of (X := cxOf (L2.CX P w) P w K mg base ["house", "method", "told"] "every_word" (defScope s_every_word) (He.ga K "every_word") cdv A outer s H E) rfl
  exact (dss_one (ds_ret (de_callTy cr_tup (by rfl) h_tuple (dab_cons (de_callB (cr_sortK rfl hu64) (by rfl) h_sorted (dab_cons (de_dc2 nd (blkOk_by (own := [(("told" : Str), 2), (("method" : Str), 1)]) (by kernel_rfl)) (vs1 := [1]) (by decide) (di_seq (de_fld [("House" : Str)] fl_told (dv 0))) (gok_name 2) (fun _ _ _ _ _ => ((dg_name (O := []) 2 nd)).pg) town_name (fun _ _ _ _ _ => dcs_nil) (fun _ _ _ _ _ => (di_seq (de_sub hu64 (dv 2) de_int))) (gok_name 1) (fun _ _ _ _ _ => ((dg_name (O := []) 1 nd)).pg) town_name (fun _ _ _ _ _ => dcs_nil) (fun _ _ _ _ _ => (de_sub hu64 (dv 1) de_int)) (fun _ _ _ _ _ => de_bl)) dab_nil)) dab_nil))))
theorem sc_closed_lots : FnScope ["house", "found", "name", "own", "lot", "size", "word"] ["house"] (defScope s_closed_lots) := ⟨rfl, rfl, rfl, by decide +kernel, rfl, by decide +kernel, by decide +kernel⟩
theorem ok_closed_lots {P : Program} {w : World} {K : PySem.W.Frag} {h : Heap} {mg : Str → Option Value} {base : Heap} (kx : K.In h) (G : h.Ns mainGlobals mg) (c : SaysX fa fn ts bs w K) : Fok P w K mg base "closed_lots" 3 ["house"] f_closed_lots := by
  have o_need_house := ok_need_house (P := P) (w := w) (base := base) kx G c
  have o_every_word := ok_every_word (P := P) (w := w) (base := base) kx G c
  have o_names_of := ok_names_of (P := P) (w := w) (base := base) kx G c
  have o_words_seen := ok_words_seen (P := P) (w := w) (base := base) kx G c
  have h_list := He.free_ok kx G (c.d.fact 91 (f := .free "list") rfl)
  have h_tuple := He.free_ok kx G (c.d.fact 3 (f := .free "tuple") rfl)
  have h_sorted := He.free_ok kx G (c.d.fact 84 (f := .free "sorted") rfl)
  have h_len := He.free_ok kx G (c.d.fact 4 (f := .free "len") rfl)
  have cl_House := He.cls_ok (c.d.fact 35 (f := .cls "House") rfl)
  have na_House_told : NoAttr K (He.ga K "House") "told" := He.eqO_ok (c.d.fact 36 (f := .noat "House" "told") rfl)
  have fl_told : ∀ z ∈ (["House"] : List Str), Cls K (He.ga K z) ∧ NoAttr K (He.ga K z) "told" := by
    intro z hz
    simp only [List.mem_cons, List.not_mem_nil, or_false] at hz
    rcases hz with rfl
    · exact ⟨cl_House, na_House_told⟩
  obtain ⟨fd, F⟩ := c.d.def_ 40 (d := d_closed_lots) rfl
  have b : Binds K fd ["house"] [] := F.bindsN fun _ _ _ _ _ _ us hl => match us, hl with | [_], _ => rfl
  have nd := sc_closed_lots.nd
  refine ⟨fd, fn_dl (k := 2) (O' := []) F sc_closed_lots (by decide) fun cdv A outer s H E hr => ?_, b, F.kp, He.glo_ok kx G (c.d.fact 92 (f := .glo "closed_lots") rfl)⟩
  have hu64 := hu_64 hr
  have hu := hu_65 hr
  have tk := takes_of (X := cxOf (L2.CX P w) P w K mg base ["house", "found", "name", "own", "lot", "size", "word"] "closed_lots" (defScope s_closed_lots) (He.ga K "closed_lots") cdv A outer s H E) rfl rfl rfl rfl
  have ps := passes_of (X := cxOf (L2.CX P w) P w K mg base ["house", "found", "name", "own", "lot", "size", "word"] "closed_lots" (defScope s_closed_lots) (He.ga K "closed_lots") cdv A outer s H E) rfl
  exact (dss_cons (ds_expr (de_fn o_need_house (hr.mono (by decide)) tk (da_cons (dv 0) da_nil) (aCons_len aNil_len)))
  (dss_cons (ds_own 1 (de_dispT (Nat.lt_of_le_of_lt (Nat.add_le_add_left (by decide) _) hu64) (de_fn o_every_word (hr.mono (by decide)) tk (da_cons (dv 0) da_nil) (aCons_len aNil_len)) de_bl) nd)
  (dss_cons (ds_for ps (di_seq (de_fn o_names_of (hr.mono (by decide)) tk (da_cons (de_fld [("House" : Str)] fl_told (dv 0)) da_nil) (aCons_len aNil_len))) (dg_name 2 nd) (dss_cons (ds_set 3 (de_fn o_words_seen (hr.mono (by decide)) tk (da_cons (dv 0) (da_cons (dv 2) da_nil)) (aCons_len (aCons_len aNil_len))) nd)
  (dss_one (ds_for ps (di_seq (DE.toE (de_callTy (cr_lstT rfl) (by rfl) h_list (dab_cons (dvb 1) dab_nil)))) (dg_name 4 nd) (dss_one (ds_put 1 hu64 (de_callTy (cr_tupT rfl) (by rfl) h_tuple (dab_cons (de_lc nd (blkOk_by (own := [(("word" : Str), 6)]) (by kernel_rfl)) (di_seq (dv 4)) (gok_name 6) (fun _ _ _ _ _ => ((dg_name (O := []) 6 nd)).pg) town_name (fun _ _ _ _ _ => (dcs_one (dt_cmp (op_ind hu) (dv 6) (dv 3)))) (fun _ _ _ _ _ => (dv 6))) dab_nil)) de_bl))))))
  (dss_one (ds_ret (DE.toE (de_lc nd (blkOk_by (own := [(("size" : Str), 5), (("lot" : Str), 4)]) (by kernel_rfl)) (di_seq (DE.toE (de_callB (cr_sortK rfl hu64) (by rfl) h_sorted (dab_cons (de_lcD 1 [] nd (blkOk_by (own := [(("lot" : Str), 4)]) (by kernel_rfl)) (gok_name 4) (fun _ _ _ _ _ => ((dg_name (O := []) 4 nd)).pg) town_name (fun _ _ _ _ _ => dcs_nil) (fun _ _ _ _ _ => (de_tup (da_cons (de_callB cr_len (by rfl) h_len (dab_cons (dv 4) dab_nil)) (da_cons (dv 4) da_nil))))) dab_nil)))) (gok_tup (goks_cons (gok_name 5) (goks_cons (gok_name 4) goks_nil))) (fun _ _ _ _ _ => ((dg_tup (dgs_cons (dg_name (O := []) 5 nd) (dgs_cons (dg_name (O := []) 4 nd) (dgs_nil (O := [])))))).pg) (town_tup (towns_cons town_name (towns_cons town_name towns_nil mono_name mono_nil) mono_name (mono_cons mono_name mono_nil))) (fun _ _ _ _ _ => dcs_nil) (fun _ _ _ _ _ => (dv 4)))))))))
theorem sc_is_double : FnScope ["house", "choice", "some", "pair", "index", "other"] ["house", "choice", "some", "pair"] (defScope s_is_double) := ⟨rfl, rfl, rfl, by decide +kernel, rfl, by decide +kernel, by decide +kernel⟩
theorem ok_is_double {P : Program} {w : World} {K : PySem.W.Frag} {h : Heap} {mg : Str → Option Value} {base : Heap} (kx : K.In h) (G : h.Ns mainGlobals mg) (c : SaysX fa fn ts bs w K) : Fok P w K mg base "is_double" 5 ["house", "choice", "some", "pair"] f_is_double := by
  have o_takes := ok_takes (P := P) (w := w) (base := base) kx G c
  have h_all := He.free_ok kx G (c.d.fact 7 (f := .free "all") rfl)
  obtain ⟨fd, F⟩ := c.d.def_ 41 (d := d_is_double) rfl
  have b : Binds K fd ["house", "choice", "some", "pair"] [] := F.bindsN fun _ _ _ _ _ _ us hl => match us, hl with | [_, _, _, _], _ => rfl
  have nd := sc_is_double.nd
  refine ⟨fd, fn_dl (k := 4) (O' := []) F sc_is_double (by decide) fun cdv A outer s H E hr => ?_, b, F.kp, He.glo_ok kx G (c.d.fact 93 (f := .glo "is_double") rfl)⟩
  have hu64 := hu_64 hr
  have hu := hu_65 hr
  have tk := takes_of (X := cxOf (L2.CX P w) P w K mg base ["house", "choice", "some", "pair", "index", "other"] "is_double" (defScope s_is_double) (He.ga K "is_double") cdv A outer s H E) rfl rfl rfl rfl
  have ps := passes_of (X := cxOf (L2.CX P w) P w K mg base ["house", "choice", "some", "pair", "index", "other"] "is_double" (defScope s_is_double) (He.ga K "is_double") cdv A outer s H E) rfl
  exact (dss_cons (ds_for ps (di_seq (dv 2)) (dg_name 4 nd) (dss_one (ds_if (O' := []) (dt_val (de_callB (cr_allD rfl) (by rfl) h_all (dab_cons (de_lc nd (blkOk_by (own := [(("other" : Str), 5)]) (by kernel_rfl)) (di_seq (dv 3)) (gok_name 5) (fun _ _ _ _ _ => ((dg_name (O := []) 5 nd)).pg) town_name (fun _ _ _ _ _ => dcs_nil) (fun _ _ _ _ _ => (de_fn o_takes (hr.mono (by decide)) L2.takes0 (da_cons (dv 0) (da_cons (de_sub hu64 (dv 1) (dv 5)) (da_cons (de_sub hu64 (dv 1) (dv 4)) da_nil))) (aCons_len (aCons_len (aCons_len aNil_len)))))) dab_nil))) (dss_one (ds_ret de_bl)) dss_nil)))
  (dss_one (ds_ret de_bl)))
theorem sc_best_of : FnScope ["house", "choice", "some", "index", "other"] ["house", "choice", "some"] (defScope s_best_of) := ⟨rfl, rfl, rfl, by decide +kernel, rfl, by decide +kernel, by decide +kernel⟩
theorem ok_best_of {P : Program} {w : World} {K : PySem.W.Frag} {h : Heap} {mg : Str → Option Value} {base : Heap} (kx : K.In h) (G : h.Ns mainGlobals mg) (c : SaysX fa fn ts bs w K) : Fok P w K mg base "best_of" 5 ["house", "choice", "some"] f_best_of := by
  have o_takes := ok_takes (P := P) (w := w) (base := base) kx G c
  have h_all := He.free_ok kx G (c.d.fact 7 (f := .free "all") rfl)
  obtain ⟨fd, F⟩ := c.d.def_ 42 (d := d_best_of) rfl
  have b : Binds K fd ["house", "choice", "some"] [] := F.bindsN fun _ _ _ _ _ _ us hl => match us, hl with | [_, _, _], _ => rfl
  have nd := sc_best_of.nd
  refine ⟨fd, fn_dl (k := 4) (O' := []) F sc_best_of (by decide) fun cdv A outer s H E hr => ?_, b, F.kp, He.glo_ok kx G (c.d.fact 94 (f := .glo "best_of") rfl)⟩
  have hu64 := hu_64 hr
  have hu := hu_65 hr
  have tk := takes_of (X := cxOf (L2.CX P w) P w K mg base ["house", "choice", "some", "index", "other"] "best_of" (defScope s_best_of) (He.ga K "best_of") cdv A outer s H E) rfl rfl rfl rfl
  have ps := passes_of (X := cxOf (L2.CX P w) P w K mg base ["house", "choice", "some", "index", "other"] "best_of" (defScope s_best_of) (He.ga K "best_of") cdv A outer s H E) rfl
  exact (dss_cons (ds_for ps (di_seq (dv 2)) (dg_name 3 nd) (dss_one (ds_if (O' := []) (dt_val (de_callB (cr_allD rfl) (by rfl) h_all (dab_cons (de_lc nd (blkOk_by (own := [(("other" : Str), 4)]) (by kernel_rfl)) (di_seq (dv 2)) (gok_name 4) (fun _ _ _ _ _ => ((dg_name (O := []) 4 nd)).pg) town_name (fun _ _ _ _ _ => dcs_nil) (fun _ _ _ _ _ => (de_fn o_takes (hr.mono (by decide)) L2.takes0 (da_cons (dv 0) (da_cons (de_sub hu64 (dv 1) (dv 4)) (da_cons (de_sub hu64 (dv 1) (dv 3)) da_nil))) (aCons_len (aCons_len (aCons_len aNil_len)))))) dab_nil))) (dss_one (ds_ret (dv 3))) dss_nil)))
  (dss_one (ds_ret de_non)))
theorem sc_shows_choice : FnScope ["house", "choice", "kinds", "value", "some", "one"] ["house", "choice", "kinds", "value"] (defScope s_shows_choice) := ⟨rfl, rfl, rfl, by decide +kernel, rfl, by decide +kernel, by decide +kernel⟩
theorem ok_shows_choice {P : Program} {w : World} {K : PySem.W.Frag} {h : Heap} {mg : Str → Option Value} {base : Heap} (kx : K.In h) (G : h.Ns mainGlobals mg) (c : SaysX fa fn ts bs w K) : Fok P w K mg base "shows_choice" 6 ["house", "choice", "kinds", "value"] f_shows_choice := by
  have o_need_choice := ok_need_choice (P := P) (w := w) (base := base) kx G c
  have o_need_kinds := ok_need_kinds (P := P) (w := w) (base := base) kx G c
  have o_taking := ok_taking (P := P) (w := w) (base := base) kx G c
  have o_best_of := ok_best_of (P := P) (w := w) (base := base) kx G c
  have o_is_double := ok_is_double (P := P) (w := w) (base := base) kx G c
  have h_isinstance := He.free_ok kx G (c.d.fact 2 (f := .free "isinstance") rfl)
  have h_tuple := He.free_ok kx G (c.d.fact 3 (f := .free "tuple") rfl)
  have h_str := He.free_ok kx G (c.d.fact 6 (f := .free "str") rfl)
  have h_len := He.free_ok kx G (c.d.fact 4 (f := .free "len") rfl)
  have h_all := He.free_ok kx G (c.d.fact 7 (f := .free "all") rfl)
  have h_int := He.free_ok kx G (c.d.fact 18 (f := .free "int") rfl)
  have h_bool := He.free_ok kx G (c.d.fact 19 (f := .free "bool") rfl)
  obtain ⟨fd, F⟩ := c.d.def_ 43 (d := d_shows_choice) rfl
  have b : Binds K fd ["house", "choice", "kinds", "value"] [] := F.bindsN fun _ _ _ _ _ _ us hl => match us, hl with | [_, _, _, _], _ => rfl
  have nd := sc_shows_choice.nd
  refine ⟨fd, fn_dl (k := 5) (O' := []) F sc_shows_choice (by decide) fun cdv A outer s H E hr => ?_, b, F.kp, He.glo_ok kx G (c.d.fact 95 (f := .glo "shows_choice") rfl)⟩
  have hu64 := hu_64 hr
  have hu := hu_65 hr
  have tk := takes_of (X := cxOf (L2.CX P w) P w K mg base ["house", "choice", "kinds", "value", "some", "one"] "shows_choice" (defScope s_shows_choice) (He.ga K "shows_choice") cdv A outer s H E) rfl rfl rfl rfl
  have ps := passes_of (X := cxOf (L2.CX P w) P w K mg base ["house", "choice", "kinds", "value", "some", "one"] "shows_choice" (defScope s_shows_choice) (He.ga K "shows_choice") cdv A outer s H E) rfl
  exact (dss_cons (ds_expr (de_fn o_need_choice (hr.mono (by decide)) tk (da_cons (dv 0) (da_cons (dv 1) da_nil)) (aCons_len (aCons_len aNil_len))))
  (dss_cons (ds_expr (de_fn o_need_kinds (hr.mono (by decide)) tk (da_cons (dv 0) (da_cons (dv 2) da_nil)) (aCons_len (aCons_len aNil_len))))
  (dss_cons (ds_if (O' := []) (dt_bool (dw_or (dt_not (dt_val (de_isi (is_tuple) (dv 3) (pe_bltn (by rfl) h_tuple (by rfl) (by rfl)) (.ty _) h_isinstance))) (dw_or (dt_cmp (op_eqe hu64) (dv 3) (de_tup da_nil)) (dw_or1 (dt_not (dt_val (de_isi (is_str) (de_sub hu64 (dv 3) de_int) (pe_bltn (by rfl) h_str (by rfl) (by rfl)) (.ty _) h_isinstance))))))) (dss_one (ds_ret de_bl)) dss_nil)
  (dss_cons (ds_set 4 (de_fn o_taking (hr.mono (by decide)) tk (da_cons (dv 0) (da_cons (dv 1) (da_cons (dv 2) da_nil))) (aCons_len (aCons_len (aCons_len aNil_len)))) nd)
  (dss_cons (ds_if (O' := []) (dt_cmp (op_eqd hu64) (de_sub hu64 (dv 3) de_int) de_str) (dss_one (ds_ret (de_and (de_cmp (op_eqd hu64) (de_callB cr_len (by rfl) h_len (dab_cons (dv 3) dab_nil)) de_int) (de_one (de_cmp (op_eqd hu64) (dv 4) (de_lst da_nil)))))) dss_nil)
  (dss_cons (ds_if (O' := []) (dt_not (dt_val (de_callB (cr_allD rfl) (by rfl) h_all (dab_cons (de_lc nd (blkOk_by (own := [(("one" : Str), 5)]) (by kernel_rfl)) (di_seq (de_sl (dv 3) (do_some de_int) do_none)) (gok_name 5) (fun _ _ _ _ _ => ((dg_name (O := []) 5 nd)).pg) town_name (fun _ _ _ _ _ => dcs_nil) (fun _ _ _ _ _ => (de_and (de_isi (is_int) (dv 5) (pe_bltn (by rfl) h_int (by rfl) (by rfl)) (.ty _) h_isinstance) (de_and (de_not (de_isi (is_bool) (dv 5) (pe_bltn (by rfl) h_bool (by rfl) (by rfl)) (.ty _) h_isinstance)) (de_one (de_cmp (op_ind hu) (dv 5) (dv 4))))))) dab_nil)))) (dss_one (ds_ret de_bl)) dss_nil)
  (dss_cons (ds_if (O' := []) (dt_cmp (op_eqd hu64) (de_sub hu64 (dv 3) de_int) de_str) (dss_one (ds_ret (de_and (de_cmp (op_eqd hu64) (de_callB cr_len (by rfl) h_len (dab_cons (dv 3) dab_nil)) de_int) (de_one (de_cmp (op_eqd hu64) (de_fn o_best_of (hr.mono (by decide)) tk (da_cons (dv 0) (da_cons (dv 1) (da_cons (dv 4) da_nil))) (aCons_len (aCons_len (aCons_len aNil_len)))) (de_sub hu64 (dv 3) de_int)))))) dss_nil)
  (dss_one (ds_ret (de_and (de_cmp (op_eqd hu64) (de_sub hu64 (dv 3) de_int) de_str) (de_and (de_cmp (op_eqd hu64) (de_callB cr_len (by rfl) h_len (dab_cons (dv 3) dab_nil)) de_int) (de_and (de_cmp (op_lti) (de_sub hu64 (dv 3) de_int) (de_sub hu64 (dv 3) de_int)) (de_one (de_fn o_is_double (hr.mono (by decide)) tk (da_cons (dv 0) (da_cons (dv 1) (da_cons (dv 4) (da_cons (de_sl (dv 3) (do_some de_int) do_none) da_nil)))) (aCons_len (aCons_len (aCons_len (aCons_len aNil_len))))))))))))))))))
theorem sc_paper_of : FnScope ["house", "choice", "kinds", "some", "index", "pairs", "one", "other", "pair"] ["house", "choice", "kinds"] (defScope s_paper_of) := ⟨rfl, rfl, rfl, by decide +kernel, rfl, by decide +kernel, by decide +kernel⟩
theorem ok_paper_of {P : Program} {w : World} {K : PySem.W.Frag} {h : Heap} {mg : Str → Option Value} {base : Heap} (kx : K.In h) (G : h.Ns mainGlobals mg) (c : SaysX fa fn ts bs w K) : Fok P w K mg base "paper_of" 6 ["house", "choice", "kinds"] f_paper_of := by
  have o_taking := ok_taking (P := P) (w := w) (base := base) kx G c
  have o_best_of := ok_best_of (P := P) (w := w) (base := base) kx G c
  have o_is_double := ok_is_double (P := P) (w := w) (base := base) kx G c
  obtain ⟨fd, F⟩ := c.d.def_ 44 (d := d_paper_of) rfl
  have b : Binds K fd ["house", "choice", "kinds"] [] := F.bindsN fun _ _ _ _ _ _ us hl => match us, hl with | [_, _, _], _ => rfl
  have nd := sc_paper_of.nd
  refine ⟨fd, fn_dl (k := 5) (O' := []) F sc_paper_of (by decide) fun cdv A outer s H E hr => ?_, b, F.kp, He.glo_ok kx G (c.d.fact 96 (f := .glo "paper_of") rfl)⟩
  have hu64 := hu_64 hr
  have hu := hu_65 hr
  have tk := takes_of (X := cxOf (L2.CX P w) P w K mg base ["house", "choice", "kinds", "some", "index", "pairs", "one", "other", "pair"] "paper_of" (defScope s_paper_of) (He.ga K "paper_of") cdv A outer s H E) rfl rfl rfl rfl
  have ps := passes_of (X := cxOf (L2.CX P w) P w K mg base ["house", "choice", "kinds", "some", "index", "pairs", "one", "other", "pair"] "paper_of" (defScope s_paper_of) (He.ga K "paper_of") cdv A outer s H E) rfl
  exact (dss_cons (ds_set 3 (de_fn o_taking (hr.mono (by decide)) tk (da_cons (dv 0) (da_cons (dv 1) (da_cons (dv 2) da_nil))) (aCons_len (aCons_len (aCons_len aNil_len)))) nd)
  (dss_cons (ds_if (O' := []) (dt_cmp (op_eqd hu64) (dv 3) (de_lst da_nil)) (dss_one (ds_ret (de_tup (da_cons de_str da_nil)))) dss_nil)
  (dss_cons (ds_set 4 (de_fn o_best_of (hr.mono (by decide)) tk (da_cons (dv 0) (da_cons (dv 1) (da_cons (dv 3) da_nil))) (aCons_len (aCons_len (aCons_len aNil_len)))) nd)
  (dss_cons (ds_if (O' := []) (dt_notN (dv 4)) (dss_one (ds_ret (de_tup (da_cons de_str (da_cons (dv 4) da_nil))))) dss_nil)
  (dss_cons (ds_lc2Set 5 nd (blkOk_by (own := [(("one" : Str), 6), (("other" : Str), 7)]) (by kernel_rfl)) (vs1 := [7]) (by decide) (di_seq (dv 3)) (gok_name 6) (fun _ _ _ _ _ => ((dg_name (O := []) 6 nd)).pg) town_name (fun _ _ _ _ _ => dcs_nil) (fun _ _ _ _ _ => (di_seq (dv 3))) (gok_name 7) (fun _ _ _ _ _ => ((dg_name (O := []) 7 nd)).pg) town_name (fun _ _ _ _ _ => (dcs_one (dt_cmp (op_lti) (dv 6) (dv 7)))) (fun _ _ _ _ _ => (de_tup (da_cons (dv 6) (da_cons (dv 7) da_nil)))) (by rfl))
  (dss_one (ds_ret (de_tup (da_cons de_str (da_star (de_sub hu64 (de_lc nd (blkOk_by (own := [(("pair" : Str), 8)]) (by kernel_rfl)) (di_seq (dv 5)) (gok_name 8) (fun _ _ _ _ _ => ((dg_name (O := []) 8 nd)).pg) town_name (fun _ _ _ _ _ => (dcs_one (dt_val (de_fn o_is_double (hr.mono (by decide)) L2.takes0 (da_cons (dv 0) (da_cons (dv 1) (da_cons (dv 3) (da_cons (dv 8) da_nil)))) (aCons_len (aCons_len (aCons_len (aCons_len aNil_len)))))))) (fun _ _ _ _ _ => (dv 8))) de_int) da_nil))))))))))
theorem sc_first_double : FnScope ["house", "choice", "names", "layer", "turn", "kinds", "name"] ["house", "choice"] (defScope s_first_double) := ⟨rfl, rfl, rfl, by decide +kernel, rfl, by decide +kernel, by decide +kernel⟩
theorem ok_first_double {P : Program} {w : World} {K : PySem.W.Frag} {h : Heap} {mg : Str → Option Value} {base : Heap} (kx : K.In h) (G : h.Ns mainGlobals mg) (c : SaysX fa fn ts bs w K) : Fok P w K mg base "first_double" 7 ["house", "choice"] f_first_double := by
  have o_need_choice := ok_need_choice (P := P) (w := w) (base := base) kx G c
  have o_names_of := ok_names_of (P := P) (w := w) (base := base) kx G c
  have o_paper_of := ok_paper_of (P := P) (w := w) (base := base) kx G c
  have h_sorted := He.free_ok kx G (c.d.fact 84 (f := .free "sorted") rfl)
  have h_range := He.free_ok kx G (c.d.fact 26 (f := .free "range") rfl)
  have g_NONE := He.str_ok kx G (c.d.fact 66 (f := .str "NONE" ("none" : Str)) rfl)
  have g_NUM := He.str_ok kx G (c.d.fact 13 (f := .str "NUM" ("num" : Str)) rfl)
  have g_MOST_INS_calls := He.int_ok kx G (c.d.fact 62 (f := .int "MOST_INS_calls" 3) rfl)
  have cl_House := He.cls_ok (c.d.fact 35 (f := .cls "House") rfl)
  have na_House_told : NoAttr K (He.ga K "House") "told" := He.eqO_ok (c.d.fact 36 (f := .noat "House" "told") rfl)
  have fl_told : ∀ z ∈ (["House"] : List Str), Cls K (He.ga K z) ∧ NoAttr K (He.ga K z) "told" := by
    intro z hz
    simp only [List.mem_cons, List.not_mem_nil, or_false] at hz
    rcases hz with rfl
    · exact ⟨cl_House, na_House_told⟩
  obtain ⟨fd, F⟩ := c.d.def_ 45 (d := d_first_double) rfl
  have b : Binds K fd ["house", "choice"] [] := F.bindsN fun _ _ _ _ _ _ us hl => match us, hl with | [_, _], _ => rfl
  have nd := sc_first_double.nd
  refine ⟨fd, fn_dl (k := 6) (O' := []) F sc_first_double (by decide) fun cdv A outer s H E hr => ?_, b, F.kp, He.glo_ok kx G (c.d.fact 97 (f := .glo "first_double") rfl)⟩
  have hu64 := hu_64 hr
  have hu := hu_65 hr
  have tk := takes_of (X := cxOf (L2.CX P w) P w K mg base ["house", "choice", "names", "layer", "turn", "kinds", "name"] "first_double" (defScope s_first_double) (He.ga K "first_double") cdv A outer s H E) rfl rfl rfl rfl
  have ps := passes_of (X := cxOf (L2.CX P w) P w K mg base ["house", "choice", "names", "layer", "turn", "kinds", "name"] "first_double" (defScope s_first_double) (He.ga K "first_double") cdv A outer s H E) rfl
  exact (dss_cons (ds_expr (de_fn o_need_choice (hr.mono (by decide)) tk (da_cons (dv 0) (da_cons (dv 1) da_nil)) (aCons_len (aCons_len aNil_len))))
  (dss_cons (ds_parT [2, 3] (dak_e (DE.toE (de_callB (cr_sortK rfl hu64) (by rfl) h_sorted (dab_cons (de_lst (da_star (de_fn o_names_of (hr.mono (by decide)) tk (da_cons (de_fld [("House" : Str)] fl_told (dv 0)) da_nil) (aCons_len aNil_len)) (da_cons (de_gstr g_NUM) (da_cons (de_gstr g_NONE) da_nil)))) dab_nil))) (dak_e (DE.toE (de_lst (da_cons (de_tup da_nil) da_nil))) dak_nil)) (pgs_cons (pg_name nd (by rfl) (by first | exact Or.inl rfl | exact Or.inr rfl) (by first | exact .inl rfl | exact .inr rfl)) (pgs_cons (pg_name nd (by rfl) (by first | exact Or.inl rfl | exact Or.inr rfl) (by first | exact .inl rfl | exact .inr rfl)) pgs_nil)))
  (dss_cons (ds_for ps (di_range1 (da_cons (de_bin op_addd (de_gint g_MOST_INS_calls) de_int) da_nil) h_range) (dg_name 4 nd) (dss_cons (ds_for ps (di_seq (dv 3)) (dg_name 5 nd) (dss_one (ds_if (O' := []) (dt_cmp (op_eqd hu64) (de_sub hu64 (de_fn o_paper_of (hr.mono (by decide)) tk (da_cons (dv 0) (da_cons (dv 1) (da_cons (dv 5) da_nil))) (aCons_len (aCons_len (aCons_len aNil_len)))) de_int) de_str) (dss_one (ds_ret (dv 5))) dss_nil)))
  (dss_one (ds_lc2Set 3 nd (blkOk_by (own := [(("kinds" : Str), 5), (("name" : Str), 6)]) (by kernel_rfl)) (vs1 := [6]) (by decide) (di_seq (dv 3)) (gok_name 5) (fun _ _ _ _ _ => ((dg_name (O := []) 5 nd)).pg) town_name (fun _ _ _ _ _ => dcs_nil) (fun _ _ _ _ _ => (di_seq (dv 2))) (gok_name 6) (fun _ _ _ _ _ => ((dg_name (O := []) 6 nd)).pg) town_name (fun _ _ _ _ _ => dcs_nil) (fun _ _ _ _ _ => (de_tup (da_star (dv 5) (da_cons (dv 6) da_nil)))) (by rfl)))))
  (dss_one (ds_ret de_non)))))
theorem sc_slot_of : FnScope ["house", "name", "word", "words", "own", "holder"] ["house", "name", "word"] (defScope s_slot_of) := ⟨rfl, rfl, rfl, by decide +kernel, rfl, by decide +kernel, by decide +kernel⟩
theorem ok_slot_of {P : Program} {w : World} {K : PySem.W.Frag} {h : Heap} {mg : Str → Option Value} {base : Heap} (kx : K.In h) (G : h.Ns mainGlobals mg) (c : SaysX fa fn ts bs w K) : Fok P w K mg base "slot_of" 4 ["house", "name", "word"] f_slot_of := by
  have o_need_asked := ok_need_asked (P := P) (w := w) (base := base) kx G c
  have o_row_made := ok_row_made (P := P) (w := w) (base := base) kx G c
  obtain ⟨fd, F⟩ := c.d.def_ 46 (d := d_slot_of) rfl
  have b : Binds K fd ["house", "name", "word"] [] := F.bindsN fun _ _ _ _ _ _ us hl => match us, hl with | [_, _, _], _ => rfl
  have nd := sc_slot_of.nd
  refine ⟨fd, fn_dl (k := 3) (O' := []) F sc_slot_of (by decide) fun cdv A outer s H E hr => ?_, b, F.kp, He.glo_ok kx G (c.d.fact 98 (f := .glo "slot_of") rfl)⟩
  have hu64 := hu_64 hr
  have hu := hu_65 hr
  have tk := takes_of (X := cxOf (L2.CX P w) P w K mg base ["house", "name", "word", "words", "own", "holder"] "slot_of" (defScope s_slot_of) (He.ga K "slot_of") cdv A outer s H E) rfl rfl rfl rfl
  have ps := passes_of (X := cxOf (L2.CX P w) P w K mg base ["house", "name", "word", "words", "own", "holder"] "slot_of" (defScope s_slot_of) (He.ga K "slot_of") cdv A outer s H E) rfl
  exact (dss_cons (ds_expr (de_fn o_need_asked (hr.mono (by decide)) tk (da_cons (dv 0) (da_cons (dv 1) (da_cons (dv 2) da_nil))) (aCons_len (aCons_len (aCons_len aNil_len)))))
  (dss_cons (ds_lcSet 3 nd (blkOk_by (own := [(("own" : Str), 4), (("holder" : Str), 5)]) (by kernel_rfl)) (di_seq (de_fn o_row_made (hr.mono (by decide)) tk (da_cons (dv 0) (da_cons (dv 1) da_nil)) (aCons_len (aCons_len aNil_len)))) (gok_tup (goks_cons (gok_name 4) (goks_cons (gok_name 5) goks_nil))) (fun _ _ _ _ _ => ((dg_tup (dgs_cons (dg_name (O := []) 4 nd) (dgs_cons (dg_name (O := []) 5 nd) (dgs_nil (O := [])))))).pg) (town_tup (towns_cons town_name (towns_cons town_name towns_nil mono_name mono_nil) mono_name (mono_cons mono_name mono_nil))) (fun _ _ _ _ _ => dcs_nil) (fun _ _ _ _ _ => (dv 4)) (by rfl))
  (dss_one (ds_ret (de_ifx (k := .e) (dt_cmp (op_ind hu) (dv 2) (dv 3)) (de_idx hu (dv 3) (dv 2)) de_non)))))
theorem sc_at_slot : FnScope ["house", "name", "slot", "row", "word", "holder", "method"] ["house", "name", "slot"] (defScope s_at_slot) := ⟨rfl, rfl, rfl, by decide +kernel, rfl, by decide +kernel, by decide +kernel⟩
theorem ok_at_slot {P : Program} {w : World} {K : PySem.W.Frag} {h : Heap} {mg : Str → Option Value} {base : Heap} (kx : K.In h) (G : h.Ns mainGlobals mg) (c : SaysX fa fn ts bs w K) : Fok P w K mg base "at_slot" 3 ["house", "name", "slot"] f_at_slot := by
  have o_need_house := ok_need_house (P := P) (w := w) (base := base) kx G c
  have o_need_name := ok_need_name (P := P) (w := w) (base := base) kx G c
  have o_row_made := ok_row_made (P := P) (w := w) (base := base) kx G c
  have o_is_in := ok_is_in (P := P) (w := w) (base := base) kx G c
  have o_row_of := ok_row_of (P := P) (w := w) (base := base) kx G c
  have h_len := He.free_ok kx G (c.d.fact 4 (f := .free "len") rfl)
  have z_BadSlot := c.b 103 rfl
  have gz_BadSlot := He.glo_ok kx G (c.d.fact 49 (f := .glo "BadSlot") rfl)
  have cl_House := He.cls_ok (c.d.fact 35 (f := .cls "House") rfl)
  have na_House_told : NoAttr K (He.ga K "House") "told" := He.eqO_ok (c.d.fact 36 (f := .noat "House" "told") rfl)
  have fl_told : ∀ z ∈ (["House"] : List Str), Cls K (He.ga K z) ∧ NoAttr K (He.ga K z) "told" := by
    intro z hz
    simp only [List.mem_cons, List.not_mem_nil, or_false] at hz
    rcases hz with rfl
    · exact ⟨cl_House, na_House_told⟩
  obtain ⟨fd, F⟩ := c.d.def_ 47 (d := d_at_slot) rfl
  have b : Binds K fd ["house", "name", "slot"] [] := F.bindsN fun _ _ _ _ _ _ us hl => match us, hl with | [_, _, _], _ => rfl
  have nd := sc_at_slot.nd
  refine ⟨fd, fn_dl (k := 2) (O' := []) F sc_at_slot (by decide) fun cdv A outer s H E hr => ?_, b, F.kp, He.glo_ok kx G (c.d.fact 99 (f := .glo "at_slot") rfl)⟩
  have hu64 := hu_64 hr
  have hu := hu_65 hr
  have tk := takes_of (X := cxOf (L2.CX P w) P w K mg base ["house", "name", "slot", "row", "word", "holder", "method"] "at_slot" (defScope s_at_slot) (He.ga K "at_slot") cdv A outer s H E) rfl rfl rfl rfl
  have ps := passes_of (X := cxOf (L2.CX P w) P w K mg base ["house", "name", "slot", "row", "word", "holder", "method"] "at_slot" (defScope s_at_slot) (He.ga K "at_slot") cdv A outer s H E) rfl
  exact (dss_cons (ds_expr (de_fn o_need_house (hr.mono (by decide)) tk (da_cons (dv 0) da_nil) (aCons_len aNil_len)))
  (dss_cons (ds_expr (de_fn o_need_name (hr.mono (by decide)) tk (da_cons (dv 0) (da_cons (dv 1) da_nil)) (aCons_len (aCons_len aNil_len))))
  (dss_cons (ds_set 3 (de_fn o_row_made (hr.mono (by decide)) tk (da_cons (dv 0) (da_cons (dv 1) da_nil)) (aCons_len (aCons_len aNil_len))) nd)
  (dss_cons (ds_if (O' := []) (dt_not (dt_val (de_fn o_is_in (hr.mono (by decide)) tk (da_cons (dv 2) (da_cons de_int (da_cons (de_bin op_subd (de_callB cr_len (by rfl) h_len (dab_cons (dv 3) dab_nil)) de_int) da_nil))) (aCons_len (aCons_len (aCons_len aNil_len)))))) (dss_one (ds_raise0 z_BadSlot gz_BadSlot tk)) dss_nil)
  (dss_cons (ds_unp (de_sub hu64 (dv 3) (dv 2)) (dg_tup (dgs_cons (dg_name 4 nd) (dgs_cons (dg_name 5 nd) dgs_nil))))
  (dss_one (ds_ret (de_tup (da_cons (dv 5) (da_cons (de_idx hu (de_lc nd (blkOk_by (own := [(("method" : Str), 6)]) (by kernel_rfl)) (di_seq (de_sub hu64 (de_sub hu64 (de_fn o_row_of (hr.mono (by decide)) tk (da_cons (de_fld [("House" : Str)] fl_told (dv 0)) (da_cons (dv 5) da_nil)) (aCons_len (aCons_len aNil_len))) de_int) de_int)) (gok_name 6) (fun _ _ _ _ _ => ((dg_name (O := []) 6 nd)).pg) town_name (fun _ _ _ _ _ => dcs_nil) (fun _ _ _ _ _ => (de_sub hu64 (dv 6) de_int))) (dv 4)) da_nil))))))))))
theorem sc_method_line : FnScope ["house", "name", "word"] ["house", "name", "word"] (defScope s_method_line) := ⟨rfl, rfl, rfl, by decide +kernel, rfl, by decide +kernel, by decide +kernel⟩
theorem ok_method_line {P : Program} {w : World} {K : PySem.W.Frag} {h : Heap} {mg : Str → Option Value} {base : Heap} (kx : K.In h) (G : h.Ns mainGlobals mg) (c : SaysX fa fn ts bs w K) : Fok P w K mg base "method_line" 4 ["house", "name", "word"] f_method_line := by
  have o_need_asked := ok_need_asked (P := P) (w := w) (base := base) kx G c
  have o_line_of := ok_line_of (P := P) (w := w) (base := base) kx G c
  have h_tuple := He.free_ok kx G (c.d.fact 3 (f := .free "tuple") rfl)
  obtain ⟨fd, F⟩ := c.d.def_ 48 (d := d_method_line) rfl
  have b : Binds K fd ["house", "name", "word"] [] := F.bindsN fun _ _ _ _ _ _ us hl => match us, hl with | [_, _, _], _ => rfl
  have nd := sc_method_line.nd
  refine ⟨fd, fn_dl (k := 3) (O' := []) F sc_method_line (by decide) fun cdv A outer s H E hr => ?_, b, F.kp, He.glo_ok kx G (c.d.fact 100 (f := .glo "method_line") rfl)⟩
  have hu64 := hu_64 hr
  have hu := hu_65 hr
  have tk := takes_of (X := cxOf (L2.CX P w) P w K mg base ["house", "name", "word"] "method_line" (defScope s_method_line) (He.ga K "method_line") cdv A outer s H E) rfl rfl rfl rfl
  have ps := passes_of (X := cxOf (L2.CX P w) P w K mg base ["house", "name", "word"] "method_line" (defScope s_method_line) (He.ga K "method_line") cdv A outer s H E) rfl
  exact (dss_cons (ds_expr (de_fn o_need_asked (hr.mono (by decide)) tk (da_cons (dv 0) (da_cons (dv 1) (da_cons (dv 2) da_nil))) (aCons_len (aCons_len (aCons_len aNil_len)))))
  (dss_one (ds_ret (de_callTy cr_tup (by rfl) h_tuple (dab_cons (de_fn o_line_of (hr.mono (by decide)) tk (da_cons (dv 0) (da_cons (dv 1) (da_cons (dv 2) da_nil))) (aCons_len (aCons_len (aCons_len aNil_len)))) dab_nil)))))
theorem sc_upper_method : FnScope ["house", "name", "word", "told", "place", "method"] ["house", "name", "word"] (defScope s_upper_method) := ⟨rfl, rfl, rfl, by decide +kernel, rfl, by decide +kernel, by decide +kernel⟩
theorem ok_upper_method {P : Program} {w : World} {K : PySem.W.Frag} {h : Heap} {mg : Str → Option Value} {base : Heap} (kx : K.In h) (G : h.Ns mainGlobals mg) (c : SaysX fa fn ts bs w K) : Fok P w K mg base "upper_method" 4 ["house", "name", "word"] f_upper_method := by
  have o_need_asked := ok_need_asked (P := P) (w := w) (base := base) kx G c
  have o_row_of := ok_row_of (P := P) (w := w) (base := base) kx G c
  have h_enumerate := He.free_ok kx G (c.d.fact 27 (f := .free "enumerate") rfl)
  have cl_House := He.cls_ok (c.d.fact 35 (f := .cls "House") rfl)
  have na_House_told : NoAttr K (He.ga K "House") "told" := He.eqO_ok (c.d.fact 36 (f := .noat "House" "told") rfl)
  have fl_told : ∀ z ∈ (["House"] : List Str), Cls K (He.ga K z) ∧ NoAttr K (He.ga K z) "told" := by
    intro z hz
    simp only [List.mem_cons, List.not_mem_nil, or_false] at hz
    rcases hz with rfl
    · exact ⟨cl_House, na_House_told⟩
  obtain ⟨fd, F⟩ := c.d.def_ 49 (d := d_upper_method) rfl
  have b : Binds K fd ["house", "name", "word"] [] := F.bindsN fun _ _ _ _ _ _ us hl => match us, hl with | [_, _, _], _ => rfl
  have nd := sc_upper_method.nd
  refine ⟨fd, fn_dl (k := 3) (O' := []) F sc_upper_method (by decide) fun cdv A outer s H E hr => ?_, b, F.kp, He.glo_ok kx G (c.d.fact 101 (f := .glo "upper_method") rfl)⟩
  have hu64 := hu_64 hr
  have hu := hu_65 hr
  have tk := takes_of (X := cxOf (L2.CX P w) P w K mg base ["house", "name", "word", "told", "place", "method"] "upper_method" (defScope s_upper_method) (He.ga K "upper_method") cdv A outer s H E) rfl rfl rfl rfl
  have ps := passes_of (X := cxOf (L2.CX P w) P w K mg base ["house", "name", "word", "told", "place", "method"] "upper_method" (defScope s_upper_method) (He.ga K "upper_method") cdv A outer s H E) rfl
  exact (dss_cons (ds_expr (de_fn o_need_asked (hr.mono (by decide)) tk (da_cons (dv 0) (da_cons (dv 1) (da_cons (dv 2) da_nil))) (aCons_len (aCons_len (aCons_len aNil_len)))))
  (dss_cons (ds_for ps (di_seq (de_sl (de_fn o_row_of (hr.mono (by decide)) tk (da_cons (de_fld [("House" : Str)] fl_told (dv 0)) (da_cons (dv 1) da_nil)) (aCons_len (aCons_len aNil_len))) (do_some de_int) do_none)) (dg_name 3 nd) (dss_one (ds_for ps (di_en (da_cons (de_sub hu64 (dv 3) de_int) da_nil) h_enumerate) (dg_tup (dgs_cons (dg_name 4 nd) (dgs_cons (dg_name 5 nd) dgs_nil))) (dss_one (ds_if (O' := []) (dt_cmp (op_eqd hu64) (de_sub hu64 (dv 5) de_int) (dv 2)) (dss_one (ds_ret (de_tup (da_cons (de_sub hu64 (dv 3) de_int) (da_cons (dv 4) da_nil))))) dss_nil)))))
  (dss_one (ds_ret de_non))))
theorem sc_targets : FnScope ["house", "name", "word"] ["house", "name", "word"] (defScope s_targets) := ⟨rfl, rfl, rfl, by decide +kernel, rfl, by decide +kernel, by decide +kernel⟩
theorem ok_targets {P : Program} {w : World} {K : PySem.W.Frag} {h : Heap} {mg : Str → Option Value} {base : Heap} (kx : K.In h) (G : h.Ns mainGlobals mg) (c : SaysX fa fn ts bs w K) : Fok P w K mg base "targets" 4 ["house", "name", "word"] f_targets := by
  have o_need_asked := ok_need_asked (P := P) (w := w) (base := base) kx G c
  have o_targets_of := ok_targets_of (P := P) (w := w) (base := base) kx G c
  obtain ⟨fd, F⟩ := c.d.def_ 50 (d := d_targets) rfl
  have b : Binds K fd ["house", "name", "word"] [] := F.bindsN fun _ _ _ _ _ _ us hl => match us, hl with | [_, _, _], _ => rfl
  have nd := sc_targets.nd
  refine ⟨fd, fn_dl (k := 3) (O' := []) F sc_targets (by decide) fun cdv A outer s H E hr => ?_, b, F.kp, He.glo_ok kx G (c.d.fact 102 (f := .glo "targets") rfl)⟩
  have hu64 := hu_64 hr
  have hu := hu_65 hr
  have tk := takes_of (X := cxOf (L2.CX P w) P w K mg base ["house", "name", "word"] "targets" (defScope s_targets) (He.ga K "targets") cdv A outer s H E) rfl rfl rfl rfl
  have ps := passes_of (X := cxOf (L2.CX P w) P w K mg base ["house", "name", "word"] "targets" (defScope s_targets) (He.ga K "targets") cdv A outer s H E) rfl
  exact (dss_cons (ds_expr (de_fn o_need_asked (hr.mono (by decide)) tk (da_cons (dv 0) (da_cons (dv 1) (da_cons (dv 2) da_nil))) (aCons_len (aCons_len (aCons_len aNil_len)))))
  (dss_one (ds_ret (de_fn o_targets_of (hr.mono (by decide)) tk (da_cons (dv 0) (da_cons (dv 1) (da_cons (dv 2) da_nil))) (aCons_len (aCons_len (aCons_len aNil_len)))))))
theorem sc_nearest_taker : FnScope ["house", "choice", "kinds"] ["house", "choice", "kinds"] (defScope s_nearest_taker) := ⟨rfl, rfl, rfl, by decide +kernel, rfl, by decide +kernel, by decide +kernel⟩
theorem ok_nearest_taker {P : Program} {w : World} {K : PySem.W.Frag} {h : Heap} {mg : Str → Option Value} {base : Heap} (kx : K.In h) (G : h.Ns mainGlobals mg) (c : SaysX fa fn ts bs w K) : Fok P w K mg base "nearest_taker" 6 ["house", "choice", "kinds"] f_nearest_taker := by
  have o_need_choice := ok_need_choice (P := P) (w := w) (base := base) kx G c
  have o_need_kinds := ok_need_kinds (P := P) (w := w) (base := base) kx G c
  have o_best_of := ok_best_of (P := P) (w := w) (base := base) kx G c
  have o_taking := ok_taking (P := P) (w := w) (base := base) kx G c
  obtain ⟨fd, F⟩ := c.d.def_ 51 (d := d_nearest_taker) rfl
  have b : Binds K fd ["house", "choice", "kinds"] [] := F.bindsN fun _ _ _ _ _ _ us hl => match us, hl with | [_, _, _], _ => rfl
  have nd := sc_nearest_taker.nd
  refine ⟨fd, fn_dl (k := 5) (O' := []) F sc_nearest_taker (by decide) fun cdv A outer s H E hr => ?_, b, F.kp, He.glo_ok kx G (c.d.fact 103 (f := .glo "nearest_taker") rfl)⟩
  have hu64 := hu_64 hr
  have hu := hu_65 hr
  have tk := takes_of (X := cxOf (L2.CX P w) P w K mg base ["house", "choice", "kinds"] "nearest_taker" (defScope s_nearest_taker) (He.ga K "nearest_taker") cdv A outer s H E) rfl rfl rfl rfl
  have ps := passes_of (X := cxOf (L2.CX P w) P w K mg base ["house", "choice", "kinds"] "nearest_taker" (defScope s_nearest_taker) (He.ga K "nearest_taker") cdv A outer s H E) rfl
  exact (dss_cons (ds_expr (de_fn o_need_choice (hr.mono (by decide)) tk (da_cons (dv 0) (da_cons (dv 1) da_nil)) (aCons_len (aCons_len aNil_len))))
  (dss_cons (ds_expr (de_fn o_need_kinds (hr.mono (by decide)) tk (da_cons (dv 0) (da_cons (dv 2) da_nil)) (aCons_len (aCons_len aNil_len))))
  (dss_one (ds_ret (de_fn o_best_of (hr.mono (by decide)) tk (da_cons (dv 0) (da_cons (dv 1) (da_cons (de_fn o_taking (hr.mono (by decide)) tk (da_cons (dv 0) (da_cons (dv 1) (da_cons (dv 2) da_nil))) (aCons_len (aCons_len (aCons_len aNil_len)))) da_nil))) (aCons_len (aCons_len (aCons_len aNil_len))))))))
theorem sc_choice_paper : FnScope ["house", "choice", "kinds"] ["house", "choice", "kinds"] (defScope s_choice_paper) := ⟨rfl, rfl, rfl, by decide +kernel, rfl, by decide +kernel, by decide +kernel⟩
theorem ok_choice_paper {P : Program} {w : World} {K : PySem.W.Frag} {h : Heap} {mg : Str → Option Value} {base : Heap} (kx : K.In h) (G : h.Ns mainGlobals mg) (c : SaysX fa fn ts bs w K) : Fok P w K mg base "choice_paper" 7 ["house", "choice", "kinds"] f_choice_paper := by
  have o_need_choice := ok_need_choice (P := P) (w := w) (base := base) kx G c
  have o_need_kinds := ok_need_kinds (P := P) (w := w) (base := base) kx G c
  have o_paper_of := ok_paper_of (P := P) (w := w) (base := base) kx G c
  obtain ⟨fd, F⟩ := c.d.def_ 52 (d := d_choice_paper) rfl
  have b : Binds K fd ["house", "choice", "kinds"] [] := F.bindsN fun _ _ _ _ _ _ us hl => match us, hl with | [_, _, _], _ => rfl
  have nd := sc_choice_paper.nd
  refine ⟨fd, fn_dl (k := 6) (O' := []) F sc_choice_paper (by decide) fun cdv A outer s H E hr => ?_, b, F.kp, He.glo_ok kx G (c.d.fact 104 (f := .glo "choice_paper") rfl)⟩
  have hu64 := hu_64 hr
  have hu := hu_65 hr
  have tk := takes_of (X := cxOf (L2.CX P w) P w K mg base ["house", "choice", "kinds"] "choice_paper" (defScope s_choice_paper) (He.ga K "choice_paper") cdv A outer s H E) rfl rfl rfl rfl
  have ps := passes_of (X := cxOf (L2.CX P w) P w K mg base ["house", "choice", "kinds"] "choice_paper" (defScope s_choice_paper) (He.ga K "choice_paper") cdv A outer s H E) rfl
  exact (dss_cons (ds_expr (de_fn o_need_choice (hr.mono (by decide)) tk (da_cons (dv 0) (da_cons (dv 1) da_nil)) (aCons_len (aCons_len aNil_len))))
  (dss_cons (ds_expr (de_fn o_need_kinds (hr.mono (by decide)) tk (da_cons (dv 0) (da_cons (dv 2) da_nil)) (aCons_len (aCons_len aNil_len))))
  (dss_one (ds_ret (de_fn o_paper_of (hr.mono (by decide)) tk (da_cons (dv 0) (da_cons (dv 1) (da_cons (dv 2) da_nil))) (aCons_len (aCons_len (aCons_len aNil_len))))))))
theorem sc_need_words : FnScope ["words", "word"] ["words"] (defScope s_need_words) := ⟨rfl, rfl, rfl, by decide +kernel, rfl, by decide +kernel, by decide +kernel⟩
theorem ok_need_words {P : Program} {w : World} {K : PySem.W.Frag} {h : Heap} {mg : Str → Option Value} {base : Heap} (kx : K.In h) (G : h.Ns mainGlobals mg) (c : SaysX fa fn ts bs w K) : Fok P w K mg base "need_words" 2 ["words"] f_need_words := by
  have o_is_word := ok_is_word (P := P) (w := w) (base := base) kx G c
  have h_isinstance := He.free_ok kx G (c.d.fact 2 (f := .free "isinstance") rfl)
  have h_tuple := He.free_ok kx G (c.d.fact 3 (f := .free "tuple") rfl)
  have h_all := He.free_ok kx G (c.d.fact 7 (f := .free "all") rfl)
  have h_list := He.free_ok kx G (c.d.fact 91 (f := .free "list") rfl)
  have h_sorted := He.free_ok kx G (c.d.fact 84 (f := .free "sorted") rfl)
  have h_set := He.free_ok kx G (c.d.fact 86 (f := .free "set") rfl)
  have z_BadWords := c.b 104 rfl
  have gz_BadWords := He.glo_ok kx G (c.d.fact 57 (f := .glo "BadWords") rfl)
  obtain ⟨fd, F⟩ := c.d.def_ 53 (d := d_need_words) rfl
  have b : Binds K fd ["words"] [] := F.bindsN fun _ _ _ _ _ _ us hl => match us, hl with | [_], _ => rfl
  have nd := sc_need_words.nd
  refine ⟨fd, fn_dl (k := 1) (O' := []) F sc_need_words (by decide) fun cdv A outer s H E hr => ?_, b, F.kp, He.glo_ok kx G (c.d.fact 105 (f := .glo "need_words") rfl)⟩
  have hu64 := hu_64 hr
  have hu := hu_65 hr
  have tk := takes_of (X := cxOf (L2.CX P w) P w K mg base ["words", "word"] "need_words" (defScope s_need_words) (He.ga K "need_words") cdv A outer s H E) rfl rfl rfl rfl
  have ps := passes_of (X := cxOf (L2.CX P w) P w K mg base ["words", "word"] "need_words" (defScope s_need_words) (He.ga K "need_words") cdv A outer s H E) rfl
  exact (dss_cons (ds_if (O' := []) (dt_bool (dw_or (dt_not (dt_val (de_isi (is_tuple) (dv 0) (pe_bltn (by rfl) h_tuple (by rfl) (by rfl)) (.ty _) h_isinstance))) (dw_or1 (dt_not (dt_val (de_callB (cr_allD rfl) (by rfl) h_all (dab_cons (de_lc nd (blkOk_by (own := [(("word" : Str), 1)]) (by kernel_rfl)) (di_seq (dv 0)) (gok_name 1) (fun _ _ _ _ _ => ((dg_name (O := []) 1 nd)).pg) town_name (fun _ _ _ _ _ => dcs_nil) (fun _ _ _ _ _ => (de_fn o_is_word (hr.mono (by decide)) L2.takes0 (da_cons (dv 1) da_nil) (aCons_len aNil_len)))) dab_nil))))))) (dss_one (ds_raise0 z_BadWords gz_BadWords tk)) dss_nil)
  (dss_one (ds_if (O' := []) (dt_cmp (op_ned hu64) (de_callTy (cr_lst rfl) (by rfl) h_list (dab_cons (dv 0) dab_nil)) (de_srtSetK (de_srtSetA rfl hu64 h_sorted h_set (dv 0)))) (dss_one (ds_raise0 z_BadWords gz_BadWords tk)) dss_nil)))
theorem sc_having : FnScope ["house", "words", "found", "name", "seen", "word"] ["house", "words"] (defScope s_having) := ⟨rfl, rfl, rfl, by decide +kernel, rfl, by decide +kernel, by decide +kernel⟩
theorem ok_having {P : Program} {w : World} {K : PySem.W.Frag} {h : Heap} {mg : Str → Option Value} {base : Heap} (kx : K.In h) (G : h.Ns mainGlobals mg) (c : SaysX fa fn ts bs w K) : Fok P w K mg base "having" 3 ["house", "words"] f_having := by
  have o_names_of := ok_names_of (P := P) (w := w) (base := base) kx G c
  have o_words_seen := ok_words_seen (P := P) (w := w) (base := base) kx G c
  have h_all := He.free_ok kx G (c.d.fact 7 (f := .free "all") rfl)
  have h_tuple := He.free_ok kx G (c.d.fact 3 (f := .free "tuple") rfl)
  have cl_House := He.cls_ok (c.d.fact 35 (f := .cls "House") rfl)
  have na_House_told : NoAttr K (He.ga K "House") "told" := He.eqO_ok (c.d.fact 36 (f := .noat "House" "told") rfl)
  have fl_told : ∀ z ∈ (["House"] : List Str), Cls K (He.ga K z) ∧ NoAttr K (He.ga K z) "told" := by
    intro z hz
    simp only [List.mem_cons, List.not_mem_nil, or_false] at hz
    rcases hz with rfl
    · exact ⟨cl_House, na_House_told⟩
  obtain ⟨fd, F⟩ := c.d.def_ 54 (d := d_having) rfl
  have b : Binds K fd ["house", "words"] [] := F.bindsN fun _ _ _ _ _ _ us hl => match us, hl with | [_, _], _ => rfl
  have nd := sc_having.nd
  refine ⟨fd, fn_dl (k := 2) (O' := []) F sc_having (by decide) fun cdv A outer s H E hr => ?_, b, F.kp, He.glo_ok kx G (c.d.fact 106 (f := .glo "having") rfl)⟩
  have hu64 := hu_64 hr
  have hu := hu_65 hr
  have tk := takes_of (X := cxOf (L2.CX P w) P w K mg base ["house", "words", "found", "name", "seen", "word"] "having" (defScope s_having) (He.ga K "having") cdv A outer s H E) rfl rfl rfl rfl
  have ps := passes_of (X := cxOf (L2.CX P w) P w K mg base ["house", "words", "found", "name", "seen", "word"] "having" (defScope s_having) (He.ga K "having") cdv A outer s H E) rfl
  exact (dss_cons (ds_own 2 (de_lst da_nil) nd)
  (dss_cons (ds_for ps (di_seq (de_fn o_names_of (hr.mono (by decide)) tk (da_cons (de_fld [("House" : Str)] fl_told (dv 0)) da_nil) (aCons_len aNil_len))) (dg_name 3 nd) (dss_cons (ds_set 4 (de_fn o_words_seen (hr.mono (by decide)) tk (da_cons (dv 0) (da_cons (dv 3) da_nil)) (aCons_len (aCons_len aNil_len))) nd)
  (dss_one (ds_if (O' := [2]) (dt_val (de_callB (cr_allD rfl) (by rfl) h_all (dab_cons (de_lc nd (blkOk_by (own := [(("word" : Str), 5)]) (by kernel_rfl)) (di_seq (dv 1)) (gok_name 5) (fun _ _ _ _ _ => ((dg_name (O := []) 5 nd)).pg) town_name (fun _ _ _ _ _ => dcs_nil) (fun _ _ _ _ _ => (de_cmp (op_ind hu) (dv 5) (dv 4)))) dab_nil))) (dss_one (ds_app 2 (dv 3))) dss_nil))))
  (dss_one (ds_ret (de_callTy cr_tup (by rfl) h_tuple (dab_cons (dvb 2) dab_nil))))))
theorem sc_who_has : FnScope ["house", "words"] ["house", "words"] (defScope s_who_has) := ⟨rfl, rfl, rfl, by decide +kernel, rfl, by decide +kernel, by decide +kernel⟩
theorem ok_who_has {P : Program} {w : World} {K : PySem.W.Frag} {h : Heap} {mg : Str → Option Value} {base : Heap} (kx : K.In h) (G : h.Ns mainGlobals mg) (c : SaysX fa fn ts bs w K) : Fok P w K mg base "who_has" 4 ["house", "words"] f_who_has := by
  have o_need_house := ok_need_house (P := P) (w := w) (base := base) kx G c
  have o_need_words := ok_need_words (P := P) (w := w) (base := base) kx G c
  have o_having := ok_having (P := P) (w := w) (base := base) kx G c
  obtain ⟨fd, F⟩ := c.d.def_ 55 (d := d_who_has) rfl
  have b : Binds K fd ["house", "words"] [] := F.bindsN fun _ _ _ _ _ _ us hl => match us, hl with | [_, _], _ => rfl
  have nd := sc_who_has.nd
  refine ⟨fd, fn_dl (k := 3) (O' := []) F sc_who_has (by decide) fun cdv A outer s H E hr => ?_, b, F.kp, He.glo_ok kx G (c.d.fact 107 (f := .glo "who_has") rfl)⟩
  have hu64 := hu_64 hr
  have hu := hu_65 hr
  have tk := takes_of (X := cxOf (L2.CX P w) P w K mg base ["house", "words"] "who_has" (defScope s_who_has) (He.ga K "who_has") cdv A outer s H E) rfl rfl rfl rfl
  have ps := passes_of (X := cxOf (L2.CX P w) P w K mg base ["house", "words"] "who_has" (defScope s_who_has) (He.ga K "who_has") cdv A outer s H E) rfl
  exact (dss_cons (ds_expr (de_fn o_need_house (hr.mono (by decide)) tk (da_cons (dv 0) da_nil) (aCons_len aNil_len)))
  (dss_cons (ds_expr (de_fn o_need_words (hr.mono (by decide)) tk (da_cons (dv 1) da_nil) (aCons_len aNil_len)))
  (dss_one (ds_ret (de_fn o_having (hr.mono (by decide)) tk (da_cons (dv 0) (da_cons (dv 1) da_nil)) (aCons_len (aCons_len aNil_len)))))))
theorem sc_first_who : FnScope ["house", "words", "some", "name"] ["house", "words"] (defScope s_first_who) := ⟨rfl, rfl, rfl, by decide +kernel, rfl, by decide +kernel, by decide +kernel⟩
theorem ok_first_who {P : Program} {w : World} {K : PySem.W.Frag} {h : Heap} {mg : Str → Option Value} {base : Heap} (kx : K.In h) (G : h.Ns mainGlobals mg) (c : SaysX fa fn ts bs w K) : Fok P w K mg base "first_who" 4 ["house", "words"] f_first_who := by
  have o_need_house := ok_need_house (P := P) (w := w) (base := base) kx G c
  have o_need_words := ok_need_words (P := P) (w := w) (base := base) kx G c
  have o_having := ok_having (P := P) (w := w) (base := base) kx G c
  have o_row_of := ok_row_of (P := P) (w := w) (base := base) kx G c
  have h_tuple := He.free_ok kx G (c.d.fact 3 (f := .free "tuple") rfl)
  have g_TOP := He.str_ok kx G (c.d.fact 0 (f := .str "TOP" ("top" : Str)) rfl)
  have cl_House := He.cls_ok (c.d.fact 35 (f := .cls "House") rfl)
  have na_House_told : NoAttr K (He.ga K "House") "told" := He.eqO_ok (c.d.fact 36 (f := .noat "House" "told") rfl)
  have fl_told : ∀ z ∈ (["House"] : List Str), Cls K (He.ga K z) ∧ NoAttr K (He.ga K z) "told" := by
    intro z hz
    simp only [List.mem_cons, List.not_mem_nil, or_false] at hz
    rcases hz with rfl
    · exact ⟨cl_House, na_House_told⟩
  obtain ⟨fd, F⟩ := c.d.def_ 56 (d := d_first_who) rfl
  have b : Binds K fd ["house", "words"] [] := F.bindsN fun _ _ _ _ _ _ us hl => match us, hl with | [_, _], _ => rfl
  have nd := sc_first_who.nd
  refine ⟨fd, fn_dl (k := 3) (O' := []) F sc_first_who (by decide) fun cdv A outer s H E hr => ?_, b, F.kp, He.glo_ok kx G (c.d.fact 108 (f := .glo "first_who") rfl)⟩
  have hu64 := hu_64 hr
  have hu := hu_65 hr
  have tk := takes_of (X := cxOf (L2.CX P w) P w K mg base ["house", "words", "some", "name"] "first_who" (defScope s_first_who) (He.ga K "first_who") cdv A outer s H E) rfl rfl rfl rfl
  have ps := passes_of (X := cxOf (L2.CX P w) P w K mg base ["house", "words", "some", "name"] "first_who" (defScope s_first_who) (He.ga K "first_who") cdv A outer s H E) rfl
  exact (dss_cons (ds_expr (de_fn o_need_house (hr.mono (by decide)) tk (da_cons (dv 0) da_nil) (aCons_len aNil_len)))
  (dss_cons (ds_expr (de_fn o_need_words (hr.mono (by decide)) tk (da_cons (dv 1) da_nil) (aCons_len aNil_len)))
  (dss_cons (ds_set 2 (de_fn o_having (hr.mono (by decide)) tk (da_cons (dv 0) (da_cons (dv 1) da_nil)) (aCons_len (aCons_len aNil_len))) nd)
  (dss_one (ds_ret (de_callTy cr_tup (by rfl) h_tuple (dab_cons (de_lc nd (blkOk_by (own := [(("name" : Str), 3)]) (by kernel_rfl)) (di_seq (dv 2)) (gok_name 3) (fun _ _ _ _ _ => ((dg_name (O := []) 3 nd)).pg) town_name (fun _ _ _ _ _ => (dcs_one (dt_bool (dw_or (dt_cmp (op_eqd hu64) (dv 3) (de_gstr g_TOP)) (dw_or1 (dt_cmp (op_notInd hu) (de_sub hu64 (de_sub hu64 (de_fn o_row_of (hr.mono (by decide)) L2.takes0 (da_cons (de_fld [("House" : Str)] fl_told (dv 0)) (da_cons (dv 3) da_nil)) (aCons_len (aCons_len aNil_len))) de_int) de_int) (dv 2))))))) (fun _ _ _ _ _ => (dv 3))) dab_nil)))))))
theorem sc_closing : FnScope ["house", "words", "some"] ["house", "words"] (defScope s_closing) := ⟨rfl, rfl, rfl, by decide +kernel, rfl, by decide +kernel, by decide +kernel⟩
theorem ok_closing {P : Program} {w : World} {K : PySem.W.Frag} {h : Heap} {mg : Str → Option Value} {base : Heap} (kx : K.In h) (G : h.Ns mainGlobals mg) (c : SaysX fa fn ts bs w K) : Fok P w K mg base "closing" 4 ["house", "words"] f_closing := by
  have o_having := ok_having (P := P) (w := w) (base := base) kx G c
  have o_shared := ok_shared (P := P) (w := w) (base := base) kx G c
  have o_every_word := ok_every_word (P := P) (w := w) (base := base) kx G c
  obtain ⟨fd, F⟩ := c.d.def_ 57 (d := d_closing) rfl
  have b : Binds K fd ["house", "words"] [] := F.bindsN fun _ _ _ _ _ _ us hl => match us, hl with | [_, _], _ => rfl
  have nd := sc_closing.nd
  refine ⟨fd, fn_dl (k := 3) (O' := []) F sc_closing (by decide) fun cdv A outer s H E hr => ?_, b, F.kp, He.glo_ok kx G (c.d.fact 109 (f := .glo "closing") rfl)⟩
  have hu64 := hu_64 hr
  have hu := hu_65 hr
  have tk := takes_of (X := cxOf (L2.CX P w) P w K mg base ["house", "words", "some"] "closing" (defScope s_closing) (He.ga K "closing") cdv A outer s H E) rfl rfl rfl rfl
  have ps := passes_of (X := cxOf (L2.CX P w) P w K mg base ["house", "words", "some"] "closing" (defScope s_closing) (He.ga K "closing") cdv A outer s H E) rfl
  exact (dss_cons (ds_set 2 (de_fn o_having (hr.mono (by decide)) tk (da_cons (dv 0) (da_cons (dv 1) da_nil)) (aCons_len (aCons_len aNil_len))) nd)
  (dss_one (ds_ret (de_ifx (k := .e) (dt_cmp (op_ned hu64) (dv 2) (de_tup da_nil)) (de_fn o_shared (hr.mono (by decide)) tk (da_cons (dv 0) (da_cons (dv 2) da_nil)) (aCons_len (aCons_len aNil_len))) (de_fn o_every_word (hr.mono (by decide)) tk (da_cons (dv 0) da_nil) (aCons_len aNil_len))))))
theorem sc_closed_words : FnScope ["house", "words"] ["house", "words"] (defScope s_closed_words) := ⟨rfl, rfl, rfl, by decide +kernel, rfl, by decide +kernel, by decide +kernel⟩
theorem ok_closed_words {P : Program} {w : World} {K : PySem.W.Frag} {h : Heap} {mg : Str → Option Value} {base : Heap} (kx : K.In h) (G : h.Ns mainGlobals mg) (c : SaysX fa fn ts bs w K) : Fok P w K mg base "closed_words" 5 ["house", "words"] f_closed_words := by
  have o_need_house := ok_need_house (P := P) (w := w) (base := base) kx G c
  have o_need_words := ok_need_words (P := P) (w := w) (base := base) kx G c
  have o_closing := ok_closing (P := P) (w := w) (base := base) kx G c
  obtain ⟨fd, F⟩ := c.d.def_ 58 (d := d_closed_words) rfl
  have b : Binds K fd ["house", "words"] [] := F.bindsN fun _ _ _ _ _ _ us hl => match us, hl with | [_, _], _ => rfl
  have nd := sc_closed_words.nd
  refine ⟨fd, fn_dl (k := 4) (O' := []) F sc_closed_words (by decide) fun cdv A outer s H E hr => ?_, b, F.kp, He.glo_ok kx G (c.d.fact 110 (f := .glo "closed_words") rfl)⟩
  have hu64 := hu_64 hr
  have hu := hu_65 hr
  have tk := takes_of (X := cxOf (L2.CX P w) P w K mg base ["house", "words"] "closed_words" (defScope s_closed_words) (He.ga K "closed_words") cdv A outer s H E) rfl rfl rfl rfl
  have ps := passes_of (X := cxOf (L2.CX P w) P w K mg base ["house", "words"] "closed_words" (defScope s_closed_words) (He.ga K "closed_words") cdv A outer s H E) rfl
  exact (dss_cons (ds_expr (de_fn o_need_house (hr.mono (by decide)) tk (da_cons (dv 0) da_nil) (aCons_len aNil_len)))
  (dss_cons (ds_expr (de_fn o_need_words (hr.mono (by decide)) tk (da_cons (dv 1) da_nil) (aCons_len aNil_len)))
  (dss_one (ds_ret (de_fn o_closing (hr.mono (by decide)) tk (da_cons (dv 0) (da_cons (dv 1) da_nil)) (aCons_len (aCons_len aNil_len)))))))
theorem sc__law_ask : FnScope ["_law_which", "_law_house", "_law_some"] ["_law_which", "_law_house", "_law_some"] (defScope s__law_ask) := ⟨rfl, rfl, rfl, by decide +kernel, rfl, by decide +kernel, by decide +kernel⟩
theorem ok__law_ask {P : Program} {w : World} {K : PySem.W.Frag} {h : Heap} {mg : Str → Option Value} {base : Heap} (kx : K.In h) (G : h.Ns mainGlobals mg) (c : SaysX fa fn ts bs w K) : Fok P w K mg base "_law_ask" 8 ["_law_which", "_law_house", "_law_some"] f__law_ask := by
  have o_method_row := ok_method_row (P := P) (w := w) (base := base) kx G c
  have o_at_slot := ok_at_slot (P := P) (w := w) (base := base) kx G c
  have o_slot_of := ok_slot_of (P := P) (w := w) (base := base) kx G c
  have o_reached_from := ok_reached_from (P := P) (w := w) (base := base) kx G c
  have o_targets := ok_targets (P := P) (w := w) (base := base) kx G c
  have o_upper_method := ok_upper_method (P := P) (w := w) (base := base) kx G c
  have o_method_line := ok_method_line (P := P) (w := w) (base := base) kx G c
  have o_choice_paper := ok_choice_paper (P := P) (w := w) (base := base) kx G c
  have o_nearest_taker := ok_nearest_taker (P := P) (w := w) (base := base) kx G c
  have o_takers := ok_takers (P := P) (w := w) (base := base) kx G c
  have o_shows_choice := ok_shows_choice (P := P) (w := w) (base := base) kx G c
  have o_first_double := ok_first_double (P := P) (w := w) (base := base) kx G c
  have o_closed_words := ok_closed_words (P := P) (w := w) (base := base) kx G c
  have o_first_who := ok_first_who (P := P) (w := w) (base := base) kx G c
  have o_who_has := ok_who_has (P := P) (w := w) (base := base) kx G c
  have o_seen_by_all := ok_seen_by_all (P := P) (w := w) (base := base) kx G c
  have o_widest_call := ok_widest_call (P := P) (w := w) (base := base) kx G c
  have o_closed_lots := ok_closed_lots (P := P) (w := w) (base := base) kx G c
  obtain ⟨fd, F⟩ := c.d.def_ 59 (d := d__law_ask) rfl
  have b : Binds K fd ["_law_which", "_law_house", "_law_some"] [] := F.bindsN fun _ _ _ _ _ _ us hl => match us, hl with | [_, _, _], _ => rfl
  have nd := sc__law_ask.nd
  refine ⟨fd, fn_dl (k := 7) (O' := []) F sc__law_ask (by decide) fun cdv A outer s H E hr => ?_, b, F.kp, He.glo_ok kx G (c.d.fact 111 (f := .glo "_law_ask") rfl)⟩
  have hu64 := hu_64 hr
  have hu := hu_65 hr
  have tk := takes_of (X := cxOf (L2.CX P w) P w K mg base ["_law_which", "_law_house", "_law_some"] "_law_ask" (defScope s__law_ask) (He.ga K "_law_ask") cdv A outer s H E) rfl rfl rfl rfl
  have ps := passes_of (X := cxOf (L2.CX P w) P w K mg base ["_law_which", "_law_house", "_law_some"] "_law_ask" (defScope s__law_ask) (He.ga K "_law_ask") cdv A outer s H E) rfl
  exact (dss_cons (ds_if (O' := []) (dt_cmp (op_eqd hu64) (dv 0) de_int) (dss_one (ds_ret (de_fn o_method_row (hr.mono (by decide)) tk (da_cons (dv 1) (da_cons (de_sub hu64 (dv 2) de_int) da_nil)) (aCons_len (aCons_len aNil_len))))) dss_nil)
  (dss_cons (ds_if (O' := []) (dt_cmp (op_lti) (dv 0) de_int) (dss_one (ds_ret (de_callV (dfs_cons o_slot_of (hr.mono (by decide)) (dfs_cons o_at_slot (hr.mono (by decide)) dfs_nil)) tk (de_sub hu64 (de_lst (da_cons (de_gdef o_slot_of) (da_cons (de_gdef o_at_slot) da_nil))) (de_bin op_subd (dv 0) de_int)) (da_cons (dv 1) (da_cons (de_sub hu64 (dv 2) de_int) (da_cons (de_sub hu64 (dv 2) (dv 0)) da_nil))) (aCons_len (aCons_len (aCons_len aNil_len)))))) dss_nil)
  (dss_cons (ds_if (O' := []) (dt_cmp (op_lti) (dv 0) de_int) (dss_one (ds_ret (de_callV (dfs_cons o_method_line (hr.mono (by decide)) (dfs_cons o_upper_method (hr.mono (by decide)) (dfs_cons o_targets (hr.mono (by decide)) (dfs_cons o_reached_from (hr.mono (by decide)) dfs_nil)))) tk (de_sub hu64 (de_lst (da_cons (de_gdef o_method_line) (da_cons (de_gdef o_upper_method) (da_cons (de_gdef o_targets) (da_cons (de_gdef o_reached_from) da_nil))))) (de_bin op_subd (dv 0) de_int)) (da_cons (dv 1) (da_cons (de_sub hu64 (dv 2) de_int) (da_cons (de_sub hu64 (dv 2) de_int) da_nil))) (aCons_len (aCons_len (aCons_len aNil_len)))))) dss_nil)
  (dss_cons (ds_if (O' := []) (dt_cmp (op_lti) (dv 0) de_int) (dss_one (ds_ret (de_callV (dfs_cons o_takers (hr.mono (by decide)) (dfs_cons o_nearest_taker (hr.mono (by decide)) (dfs_cons o_choice_paper (hr.mono (by decide)) dfs_nil))) tk (de_sub hu64 (de_lst (da_cons (de_gdef o_takers) (da_cons (de_gdef o_nearest_taker) (da_cons (de_gdef o_choice_paper) da_nil)))) (de_bin op_subd (dv 0) de_int)) (da_cons (dv 1) (da_cons (de_sub hu64 (dv 2) de_int) (da_cons (de_sub hu64 (dv 2) de_int) da_nil))) (aCons_len (aCons_len (aCons_len aNil_len)))))) dss_nil)
  (dss_cons (ds_if (O' := []) (dt_cmp (op_lti) (dv 0) de_int) (dss_one (ds_ret (de_ifx (k := .e) (dt_cmp (op_eqd hu64) (dv 0) de_int) (de_fn o_shows_choice (hr.mono (by decide)) tk (da_cons (dv 1) (da_cons (de_sub hu64 (dv 2) de_int) (da_cons (de_sub hu64 (dv 2) de_int) (da_cons de_non da_nil)))) (aCons_len (aCons_len (aCons_len (aCons_len aNil_len))))) (de_fn o_first_double (hr.mono (by decide)) tk (da_cons (dv 1) (da_cons (de_sub hu64 (dv 2) de_int) da_nil)) (aCons_len (aCons_len aNil_len)))))) dss_nil)
  (dss_cons (ds_if (O' := []) (dt_cmp (op_lti) (dv 0) de_int) (dss_one (ds_ret (de_callV (dfs_cons o_who_has (hr.mono (by decide)) (dfs_cons o_first_who (hr.mono (by decide)) (dfs_cons o_closed_words (hr.mono (by decide)) dfs_nil))) tk (de_sub hu64 (de_lst (da_cons (de_gdef o_who_has) (da_cons (de_gdef o_first_who) (da_cons (de_gdef o_closed_words) da_nil)))) (de_bin op_subd (dv 0) de_int)) (da_cons (dv 1) (da_cons (de_sub hu64 (dv 2) de_int) da_nil)) (aCons_len (aCons_len aNil_len))))) dss_nil)
  (dss_cons (ds_if (O' := []) (dt_cmp (op_eqd hu64) (dv 0) de_int) (dss_one (ds_ret (de_fn o_seen_by_all (hr.mono (by decide)) tk (da_cons (dv 1) (da_cons (de_sub hu64 (dv 2) de_int) da_nil)) (aCons_len (aCons_len aNil_len))))) dss_nil)
  (dss_one (ds_ret (de_ifx (k := .e) (dt_cmp (op_eqd hu64) (dv 0) de_int) (de_fn o_widest_call (hr.mono (by decide)) tk (da_cons (dv 1) da_nil) (aCons_len aNil_len)) (de_fn o_closed_lots (hr.mono (by decide)) tk (da_cons (dv 1) da_nil) (aCons_len aNil_len))))))))))))
theorem sc_law : FnScope ["_law_script", "_law_row", "_law_show", "_law_classes", "_law_house", "_law_names_bad", "_law_words_bad", "_law_slots_bad", "_law_choices", "_law_nine", "_law_kinds_bad", "_law_lots_bad", "_law_sets_bad", "_law_bad", "_law_good", "_law_places", "_law_turn", "_law_which", "_law_spoilt", "_law_some", "_law_due", "_law_none", "_law_value", "_law_k", "_law_size", "_law_one"] ["_law_script"] (defScope s_law) := ⟨rfl, rfl, rfl, by decide +kernel, rfl, by decide +kernel, by decide +kernel⟩
theorem ok_law {P : Program} {w : World} {K : PySem.W.Frag} {h : Heap} {mg : Str → Option Value} (kx : K.In h) (G : h.Ns mainGlobals mg) (c : SaysX fa fn ts bs w K) :
    ∃ fd : FuncData, (∀ (s : Shared) (u : Value), BindsTo s fd ⟨[u], []⟩ [("_law_script", u)]) ∧ mg "law" = some (.ref (He.ga K "law")) ∧ ∀ base : Heap, LamX.TabB base mg (cAt K (He.ga K "law")) (tAt K (He.ga K "law")) → FnOk P w K mg base (L2.CX P w) 11 (He.ga K "law") fd ["_law_script"] (spT [(tAt K (He.ga K "law"), (("law" : Str) ++ ".<locals>.") ++ "<lambda>")] K 1 f_law) := by
  obtain ⟨fd, F⟩ := c.d.def_ 60 (d := d_law) rfl
  have nd := sc_law.nd
  refine ⟨fd, fun s u => F.bindsA (ps := ["_law_script"]) (fun _ _ _ _ _ _ us hl => match us, hl with | [_], _ => rfl) s [u] rfl, He.glo_ok kx G (c.d.fact 113 (f := .glo "law") rfl), fun base tb => ?_⟩
  have o_House___init__ := ok_House___init__ (P := P) (w := w) (base := base) kx G c
  have o__law_taken := ok__law_taken (P := P) (w := w) (base := base) kx G c
  have o__law_pick := ok__law_pick (P := P) (w := w) (base := base) kx G c
  have o__law_errorc := ok__law_errorc (P := P) (w := w) (base := base) kx G c
  have o__law_ask := ok__law_ask (P := P) (w := w) (base := base) kx G c
  have o_takers := ok_takers (P := P) (w := w) (base := base) kx G c
  have o_reached_from := ok_reached_from (P := P) (w := w) (base := base) kx G c
  have h_tuple := He.free_ok kx G (c.d.fact 3 (f := .free "tuple") rfl)
  have h_range := He.free_ok kx G (c.d.fact 26 (f := .free "range") rfl)
  have h_int := He.free_ok kx G (c.d.fact 18 (f := .free "int") rfl)
  have cl_House := He.cls_ok (c.d.fact 35 (f := .cls "House") rfl)
  have mk_House := He.mkr_ok (c.d.fact 112 (f := .mkr "House") rfl)
  have n_House := He.glo_ok kx G (c.d.fact 60 (f := .glo "House") rfl)
  refine fn_dlL (k := 10) (O' := []) F sc_law (by decide) fun A outer s H E hr => ?_
  have hu64 := hu_64 hr
  have hu := hu_65 hr
  have tk := takes_of (X := cxOf (L2.CX P w) P w K mg base ["_law_script", "_law_row", "_law_show", "_law_classes", "_law_house", "_law_names_bad", "_law_words_bad", "_law_slots_bad", "_law_choices", "_law_nine", "_law_kinds_bad", "_law_lots_bad", "_law_sets_bad", "_law_bad", "_law_good", "_law_places", "_law_turn", "_law_which", "_law_spoilt", "_law_some", "_law_due", "_law_none", "_law_value", "_law_k", "_law_size", "_law_one"] "law" (defScope s_law) (He.ga K "law") (.ref (cAt K (He.ga K "law"))) A outer s H E) rfl rfl rfl rfl
  have ps := passes_of (X := cxOf (L2.CX P w) P w K mg base ["_law_script", "_law_row", "_law_show", "_law_classes", "_law_house", "_law_names_bad", "_law_words_bad", "_law_slots_bad", "_law_choices", "_law_nine", "_law_kinds_bad", "_law_lots_bad", "_law_sets_bad", "_law_bad", "_law_good", "_law_places", "_law_turn", "_law_which", "_law_spoilt", "_law_some", "_law_due", "_law_none", "_law_value", "_law_k", "_law_size", "_law_one"] "law" (defScope s_law) (He.ga K "law") (.ref (cAt K (He.ga K "law"))) A outer s H E) rfl
  exact (dss_cons (ds_newO 1 (da_cons (dv 0) (da_cons de_int (da_cons de_int (da_cons de_int da_nil)))) nd (aCons_len (aCons_len (aCons_len (aCons_len aNil_len)))))
  (dss_cons (ds_set 2 (de_tup (da_cons de_str (da_cons (de_tup da_nil) (da_cons de_str (da_cons (de_tup (da_cons (de_tup (da_cons de_str (da_cons de_int da_nil))) (da_cons (de_tup (da_cons de_str da_nil)) da_nil))) (da_cons (de_tup da_nil) da_nil)))))) nd)
  (dss_cons (ds_set 3 (de_tup (da_cons (de_tup (da_cons de_str (da_cons de_str (da_cons (de_tup da_nil) (da_cons (de_tup (da_cons (dv 2) da_nil)) da_nil))))) (da_cons (de_tup (da_cons de_str (da_cons de_str (da_cons (de_tup da_nil) (da_cons (de_tup (da_cons (dv 2) da_nil)) da_nil))))) da_nil))) nd)
  (dss_cons (ds_set 4 (de_make mk_House o_House___init__ (hr.mono (by decide)) tk n_House (da_cons (dv 3) da_nil) (aCons_len aNil_len)) nd)
  (dss_cons (ds_lcSet 5 nd (blkOk_by (own := [(("_law_value" : Str), 22)]) (by kernel_rfl)) (di_seq (DE.toE (de_lst (da_cons de_non (da_cons de_str (da_cons de_str (da_cons de_str (da_cons de_int (da_cons (DE.toE (de_lst da_nil)) (da_cons (de_tup (da_cons de_str da_nil)) (da_cons (DE.toE de_newK) (da_cons de_str da_nil)))))))))))) (gok_name 22) (fun _ _ _ _ _ => ((dg_name (O := []) 22 nd)).pg) town_name (fun _ _ _ _ _ => dcs_nil) (fun _ _ _ _ _ => (de_tup (da_cons (dv 22) (da_cons de_str da_nil)))) (by rfl))
  (dss_cons (ds_lcSet 6 nd (blkOk_by (own := [(("_law_value" : Str), 22)]) (by kernel_rfl)) (di_seq (DE.toE (de_lst (da_cons de_non (da_cons de_str (da_cons de_str (da_cons de_str (da_cons de_str (da_cons de_int (da_cons (DE.toE (de_lst da_nil)) (da_cons (de_tup (da_cons de_str da_nil)) (da_cons de_str da_nil)))))))))))) (gok_name 22) (fun _ _ _ _ _ => ((dg_name (O := []) 22 nd)).pg) town_name (fun _ _ _ _ _ => dcs_nil) (fun _ _ _ _ _ => (de_tup (da_cons (dv 22) (da_cons de_str da_nil)))) (by rfl))
  (dss_cons (ds_lcSet 7 nd (blkOk_by (own := [(("_law_value" : Str), 22)]) (by kernel_rfl)) (di_seq (DE.toE (de_lst (da_cons de_non (da_cons (de_un un_negd de_int) (da_cons de_int (da_cons de_bl (da_cons de_str (da_cons (DE.toE (de_lst da_nil)) (da_cons (de_tup (da_cons de_int da_nil)) da_nil)))))))))) (gok_name 22) (fun _ _ _ _ _ => ((dg_name (O := []) 22 nd)).pg) town_name (fun _ _ _ _ _ => dcs_nil) (fun _ _ _ _ _ => (de_tup (da_cons (dv 22) (da_cons de_str da_nil)))) (by rfl))
  (dss_cons (ds_own 8 (de_lst (da_cons (de_tup (da_cons de_non (da_cons (de_tup (da_cons de_str (da_cons de_non da_nil))) da_nil))) (da_cons (de_tup (da_cons (de_tup da_nil) (da_cons (de_tup (da_cons de_str (da_cons de_non da_nil))) da_nil))) (da_cons (de_tup (da_cons (DE.toE (de_lst (da_cons (de_tup (da_cons de_str da_nil)) da_nil))) (da_cons (de_tup (da_cons de_str (da_cons de_non da_nil))) da_nil))) da_nil)))) nd)
  (dss_cons (DS.pre (O1 := []) (ds_own 8 (de_bin op_catd (dv 8) (de_lst (da_cons (de_tup (da_cons (de_tup (da_cons (de_tup (da_cons de_str da_nil)) (da_cons (de_tup (da_cons de_str da_nil)) da_nil))) (da_cons (de_tup (da_cons de_str (da_cons de_int da_nil))) da_nil))) (da_cons (de_tup (da_cons (de_tup (da_cons (de_tup (da_cons de_str da_nil)) (da_cons (de_tup (da_cons de_str da_nil)) da_nil))) (da_cons (de_tup (da_cons de_str (da_cons de_int da_nil))) da_nil))) da_nil)))) nd))
  (dss_cons (DS.pre (O1 := []) (ds_own 8 (de_bin op_catd (dv 8) (de_lst (da_cons (de_tup (da_cons (de_tup (da_cons de_non da_nil)) (da_cons (de_tup (da_cons de_str (da_cons de_int da_nil))) da_nil))) (da_cons (de_tup (da_cons (DE.toE de_newK) (da_cons (de_tup (da_cons de_str (da_cons de_non da_nil))) da_nil))) da_nil)))) nd))
  (dss_cons (DS.pre (O1 := []) (ds_own 8 (de_bin op_catd (dv 8) (de_lst (da_cons (de_tup (da_cons (de_tup (da_cons (de_bin op_repTd (de_tup (da_cons de_str da_nil)) de_int) da_nil)) (da_cons (de_tup (da_cons de_str (da_cons de_int da_nil))) da_nil))) (da_cons (de_tup (da_cons (de_tup (da_cons (de_tup (da_cons de_str da_nil)) (da_cons (de_tup (da_cons de_str da_nil)) (da_cons de_non da_nil)))) (da_cons (de_tup (da_cons de_str (da_cons de_int da_nil))) da_nil))) da_nil)))) nd))
  (dss_cons (DS.pre (O1 := []) (ds_own 8 (de_bin op_catd (dv 8) (de_lst (da_cons (de_tup (da_cons (de_tup (da_cons (de_tup da_nil) (da_cons (DE.toE (de_lst (da_cons de_str da_nil))) da_nil))) (da_cons (de_tup (da_cons de_str (da_cons de_int da_nil))) da_nil))) (da_cons (de_tup (da_cons (de_tup (da_cons (de_tup (da_cons de_int da_nil)) da_nil)) (da_cons (de_tup (da_cons de_str (da_cons de_int da_nil))) da_nil))) (da_cons (de_tup (da_cons (de_tup (da_cons (de_tup (da_cons (DE.toE (de_lst da_nil)) da_nil)) da_nil)) (da_cons (de_tup (da_cons de_str (da_cons de_int da_nil))) da_nil))) da_nil))))) nd))
  (dss_cons (ds_set 9 (de_callTy cr_tup (by rfl) h_tuple (dab_cons (de_bin op_addd (de_bin op_addd (de_lst (da_cons (de_tup da_nil) da_nil)) (de_lc nd (blkOk_by (own := [(("_law_size" : Str), 24)]) (by kernel_rfl)) (di_seq (de_tup (da_cons de_int (da_cons de_int (da_cons de_int da_nil))))) (gok_name 24) (fun _ _ _ _ _ => ((dg_name (O := []) 24 nd)).pg) town_name (fun _ _ _ _ _ => dcs_nil) (fun _ _ _ _ _ => (de_bin op_repTd (de_tup (da_cons de_str da_nil)) (dv 24))))) (de_lc nd (blkOk_by (own := [(("_law_size" : Str), 24)]) (by kernel_rfl)) (di_seq (de_tup (da_cons de_int (da_cons de_int (da_cons de_int da_nil))))) (gok_name 24) (fun _ _ _ _ _ => ((dg_name (O := []) 24 nd)).pg) town_name (fun _ _ _ _ _ => dcs_nil) (fun _ _ _ _ _ => (de_bin op_repTd (de_tup (da_cons de_str da_nil)) (dv 24))))) dab_nil)) nd)
  (dss_cons (ds_app 8 (de_tup (da_cons (de_bin op_addd (dv 9) (de_tup (da_cons (de_tup (da_cons de_str da_nil)) (da_cons (de_tup (da_cons de_str da_nil)) da_nil)))) (da_cons (de_tup (da_cons de_str (da_cons de_non da_nil))) da_nil))))
  (dss_cons (ds_set 10 (DE.toE (de_lst (da_cons de_non (da_cons (DE.toE (de_lst (da_cons de_str da_nil))) (da_cons (de_tup (da_cons de_str da_nil)) (da_cons (de_bin op_repTd (de_tup (da_cons de_str da_nil)) de_int) (da_cons (de_tup (da_cons de_str da_nil)) (da_cons (de_tup (da_cons de_int da_nil)) (da_cons (de_tup (da_cons (DE.toE (de_lst da_nil)) da_nil)) (da_cons de_str da_nil)))))))))) nd)
  (dss_cons (ds_lcSet 10 nd (blkOk_by (own := [(("_law_value" : Str), 22)]) (by kernel_rfl)) (di_seq (dv 10)) (gok_name 22) (fun _ _ _ _ _ => ((dg_name (O := []) 22 nd)).pg) town_name (fun _ _ _ _ _ => dcs_nil) (fun _ _ _ _ _ => (de_tup (da_cons (dv 22) (da_cons de_str da_nil)))) (by rfl))
  (dss_cons (ds_lcSet 11 nd (blkOk_by (own := [(("_law_value" : Str), 22)]) (by kernel_rfl)) (di_seq (DE.toE (de_lst (da_cons de_non (da_cons (DE.toE (de_lst (da_cons de_str da_nil))) (da_cons (de_tup (da_cons de_str (da_cons de_str da_nil))) (da_cons (de_tup (da_cons de_str (da_cons de_str da_nil))) (da_cons (de_tup (da_cons de_str da_nil)) (da_cons (de_tup (da_cons de_int da_nil)) (da_cons de_str (da_cons (de_tup (da_cons (DE.toE (de_lst da_nil)) da_nil)) da_nil))))))))))) (gok_name 22) (fun _ _ _ _ _ => ((dg_name (O := []) 22 nd)).pg) town_name (fun _ _ _ _ _ => dcs_nil) (fun _ _ _ _ _ => (de_tup (da_cons (dv 22) (da_cons de_str da_nil)))) (by rfl))
  (dss_cons (ds_lcSet 12 nd (blkOk_by (own := [(("_law_value" : Str), 22)]) (by kernel_rfl)) (di_seq (DE.toE (de_lst (da_cons de_non (da_cons (de_tup da_nil) (da_cons (DE.toE (de_lst (da_cons de_str da_nil))) (da_cons (de_tup (da_cons de_str (da_cons de_str da_nil))) (da_cons (de_tup (da_cons de_str da_nil)) (da_cons (de_tup (da_cons de_int da_nil)) (da_cons (de_tup (da_cons (DE.toE (de_lst da_nil)) da_nil)) (da_cons de_str da_nil))))))))))) (gok_name 22) (fun _ _ _ _ _ => ((dg_name (O := []) 22 nd)).pg) town_name (fun _ _ _ _ _ => dcs_nil) (fun _ _ _ _ _ => (de_tup (da_cons (dv 22) (da_cons de_str da_nil)))) (by rfl))
  (dss_cons (DS.pre (O1 := []) (ds_set 13 (DE.toE (de_lst (da_cons (dv 5) (da_cons (dv 6) (da_cons (dv 7) (da_cons (dv 8) (da_cons (dv 10) (da_cons (dv 11) (da_cons (dv 12) da_nil))))))))) nd))
  (dss_cons (ds_set 14 (DE.toE (de_lst (da_cons de_str (da_cons de_str (da_cons de_int (da_cons (de_tup (da_cons (de_tup (da_cons de_str da_nil)) (da_cons (de_tup (da_cons de_str da_nil)) da_nil))) (da_cons (de_tup (da_cons de_str da_nil)) (da_cons (de_tup (da_cons de_str (da_cons de_str da_nil))) (da_cons (de_tup (da_cons de_str (da_cons de_str da_nil))) da_nil))))))))) nd)
  (dss_cons (ds_set 15 (de_bin op_addd (de_bin op_addd (de_bin op_addd (de_lst (da_cons (DE.toE (de_lst (da_cons de_int da_nil))) (da_cons (DE.toE (de_lst (da_cons de_int (da_cons de_int da_nil)))) (da_cons (DE.toE (de_lst (da_cons de_int (da_cons de_int da_nil)))) da_nil)))) (de_rep (de_lst (da_cons (DE.toE (de_lst (da_cons de_int (da_cons de_int da_nil)))) da_nil)) de_int)) (de_rep (de_lst (da_cons (DE.toE (de_lst (da_cons de_int (da_cons de_int da_nil)))) da_nil)) de_int)) (de_lst (da_cons (DE.toE (de_lst (da_cons de_int da_nil))) (da_cons (DE.toE (de_lst (da_cons de_int da_nil))) (da_cons (DE.toE (de_lst (da_cons de_int da_nil))) (da_cons (DE.toE (de_lst (da_cons de_int da_nil))) (da_cons (DE.toE (de_lst (da_cons de_int da_nil))) (da_cons (DE.toE (de_lst da_nil)) (da_cons (DE.toE (de_lst da_nil)) da_nil))))))))) nd)
  (dss_cons (ds_for ps (di_range1 (da_cons de_int da_nil) h_range) (dg_name 16 nd) (dss_cons (ds_parT [17, 18] (dak_e (de_fn o__law_taken (hr.mono (by decide)) tk (da_cons (dv 1) (da_cons de_int da_nil)) (aCons_len (aCons_len aNil_len))) (dak_e (DE.toE (de_lc nd (blkOk_by (own := [(("_law_k" : Str), 23)]) (by kernel_rfl)) (di_range1 (da_cons de_int da_nil) h_range) (gok_name 23) (fun _ _ _ _ _ => ((dg_name (O := []) 23 nd)).pg) town_name (fun _ _ _ _ _ => dcs_nil) (fun _ _ _ _ _ => (de_cmp (op_eqd hu64) (de_fn o__law_taken (hr.mono (by decide)) L2.takes0 (da_cons (dv 1) (da_cons de_int da_nil)) (aCons_len (aCons_len aNil_len))) de_int)))) dak_nil)) (pgs_cons (pg_name nd (by rfl) (by first | exact Or.inl rfl | exact Or.inr rfl) (by first | exact .inl rfl | exact .inr rfl)) (pgs_cons (pg_name nd (by rfl) (by first | exact Or.inl rfl | exact Or.inr rfl) (by first | exact .inl rfl | exact .inr rfl)) pgs_nil)))
  (dss_cons (ds_set 19 (DE.toE (de_lc nd (blkOk_by (own := [(("_law_k" : Str), 23)]) (by kernel_rfl)) (di_range1 (da_cons de_int da_nil) h_range) (gok_name 23) (fun _ _ _ _ _ => ((dg_name (O := []) 23 nd)).pg) town_name (fun _ _ _ _ _ => dcs_nil) (fun _ _ _ _ _ => (de_ifx (k := .e) (dt_tru (de_sub hu64 (dv 18) (dv 23))) (de_fn o__law_pick (hr.mono (by decide)) L2.takes0 (da_cons (dv 1) (da_cons (de_sub hu64 (dv 13) (dv 23)) da_nil)) (aCons_len (aCons_len aNil_len))) (de_tup (da_cons (de_sub hu64 (dv 14) (dv 23)) (da_cons de_str da_nil))))))) nd)
  (dss_cons (ds_lcSet 20 nd (blkOk_by (own := [(("_law_k" : Str), 23)]) (by kernel_rfl)) (di_seq (de_sub hu64 (dv 15) (dv 17))) (gok_name 23) (fun _ _ _ _ _ => ((dg_name (O := []) 23 nd)).pg) town_name (fun _ _ _ _ _ => (dcs_one (dt_tru (de_sub hu64 (dv 18) (dv 23))))) (fun _ _ _ _ _ => (de_sub hu64 (de_sub hu64 (dv 19) (dv 23)) de_int)) (by rfl))
  (dss_cons (ds_set 21 (de_fn o__law_pick (hr.mono (by decide)) tk (da_cons (dv 1) (da_cons (DE.toE (de_lst (da_cons de_non (da_cons (dv 3) (da_cons de_str (da_cons de_int (da_cons (DE.toE de_newK) (da_cons (de_tup da_nil) da_nil)))))))) da_nil)) (aCons_len (aCons_len aNil_len))) nd)
  (dss_cons (ds_set 20 (de_bin op_addd (de_bin op_addd (de_rep (de_lst (da_cons de_str da_nil)) (de_callTy cr_int (by rfl) h_int (dab_cons (de_sub hu64 (dv 18) de_int) dab_nil))) (dv 20)) (de_lst (da_cons de_str da_nil))) nd)
  (dss_one (ds_if (O' := []) (dt_cmp (op_ned hu64) (de_lam1 (q := ("law" : Str) ++ ".<locals>.") o__law_errorc (k := 8) (hr.mono (by decide)) (by decide) ⟨_, rfl, rfl⟩ rfl tb rfl (LamX.lamS_by (by kernel_rfl)) (fun Al ol sl Hl El fl cl hr =>
  have hu64 := hu_64 hr
  have hu := hu_65 hr
  (de_fn o__law_ask (hr.mono (by decide)) (takes_of rfl rfl rfl rfl) (da_cons (dv 17) (da_cons (de_ifx (k := .e) (dt_tru (de_sub hu64 (dv 18) de_int)) (dv 21) (dv 4)) (da_cons (DE.toE (de_lc nd (blkOk_by (own := [(("_law_one" : Str), 25)]) (by kernel_rfl)) (di_seq (dv 19)) (gok_name 25) (fun _ _ _ _ _ => ((dg_name (O := []) 25 nd)).pg) town_name (fun _ _ _ _ _ => dcs_nil) (fun _ _ _ _ _ => (de_sub hu64 (dv 25) de_int)))) da_nil))) (aCons_len (aCons_len (aCons_len aNil_len)))))) (de_sub hu64 (dv 20) de_int)) (dss_one (ds_ret de_bl)) dss_nil))))))))
  (dss_cons (ds_if (O' := []) (dt_cmp (op_ned hu64) (de_lam1 (q := ("law" : Str) ++ ".<locals>.") o__law_errorc (k := 6) (hr.mono (by decide)) (by decide) ⟨_, rfl, rfl⟩ rfl tb rfl (LamX.lamS_by (by kernel_rfl)) (fun Al ol sl Hl El fl cl hr =>
  have hu64 := hu_64 hr
  have hu := hu_65 hr
  (de_fn o_takers (hr.mono (by decide)) (takes_of rfl rfl rfl rfl) (da_cons (dv 4) (da_cons (de_bin op_addd (dv 9) (de_tup (da_cons (de_tup (da_cons de_str da_nil)) da_nil))) (da_cons (de_tup da_nil) da_nil))) (aCons_len (aCons_len (aCons_len aNil_len)))))) de_str) (dss_one (ds_ret de_bl)) dss_nil)
  (dss_one (ds_ret (de_cmp (op_eqd hu64) (de_lam1 (q := ("law" : Str) ++ ".<locals>.") o__law_errorc (k := 4) (hr.mono (by decide)) (by decide) ⟨_, rfl, rfl⟩ rfl tb rfl (LamX.lamS_by (by kernel_rfl)) (fun Al ol sl Hl El fl cl hr =>
  have hu64 := hu_64 hr
  have hu := hu_65 hr
  (de_fn o_reached_from (hr.mono (by decide)) (takes_of rfl rfl rfl rfl) (da_cons (dv 4) (da_cons de_str (da_cons de_str da_nil))) (aCons_len (aCons_len (aCons_len aNil_len)))))) de_str))))))))))))))))))))))))))
end K53

set_option maxHeartbeats 0
open PySem PySem.W PySem.Calls PyProof.Rows
theorem PySem.Challenge.cw_classhouse_k53_calls_refused_holds : PySem.Challenge.rw_classhouse_k53_calls_refused.Holds := by
  w_on; o_law
  refine HandSHeadRun.head_any (r := K53.R) (q := view K53.R.prog [99]) (H := K53.hk) (ob := K53.ob) (M := 6000) (loose := K53.loose) (d := HandSHeadRun.topDef K53.R.prog 99) (kwd := []) K53.ob_eq
    (by kernel_rfl) (fun s => by kernel_rfl) K53.run (by kernel_rfl) (by kernel_rfl) (by kernel_rfl) (by rfl) (by first | assumption | decide +kernel) (by decide +kernel) ⟨rfl, rfl, rfl, rfl, rfl, by decide +kernel⟩ ?hw ?hc
  case hw => w_witness2
  case hc =>
    refine LamX.walk_ofTsE (l := PySem.Challenge.rw_classhouse_k53_calls_refused) (n := 63) (k := 11) (x := "_law_script") (CX := L2.CX (PySem.Challenge.rw_classhouse_k53_calls_refused).prog) rfl (by decide) (by kernel_rfl) ⟨rfl, by decide, by decide⟩ ?F fun w => DL.noCX w
    intro w mg fa h Y G hmg0
    obtain ⟨K, KX, c, t⟩ := Y
    have hmg : mg ("law" : PySem.Str) = some (.ref fa) := by
      have e : (HandSHeadRun.topDef K53.R.prog 99).name = ("law" : PySem.Str) := by kernel_rfl
      rw [← e]
      exact hmg0
    exact ⟨K, KX, DL.lawAtL K53.law_ok hmg (t "law" List.mem_cons_self) (K53.ok_law KX G c)⟩

