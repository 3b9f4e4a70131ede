import PyProof.Rows.All
import Wide.All
import OpenK.AllK
import Wide.FinOn
import HandS.ForMost
import HandS.Exc
import HandS.HeadHook1
import HandS.Lambda
import HandS.NoneIn
import HandS.CallSlots
import HandS.Defaults
import HandS.TupAny
import HandS.IsInst
import HandS.Deep
import HandS.Wide
import KE.SortData
import HandS.DictComp
import HandS.Star
import HandS.Style
import HandS.Conv
import HandS.Text
import PyProof.P3In
import HandS.More
import HandS.WordsDict
import HandS.TupLen
import HandS.Sort
import HandS.Zip
import HandS.Iter
import PyProof.EnumMake
import PyProof.WalksEnum
import PyProof.Draws
import KE.GoesEnum
import KE.GoesNew
import HandS.TupMul
import HandS.WordsExc
import HandS.HeadHook2
import HandS.ExcInit
import HandS.ExcField
import HandS.TryMany
import HandS.HeadHook3
import HandS.HeadWalk
import HandS.EndTab
import HandS.Head0
import HandS.Head1
import HandS.Head2
import HandS.HeadEnd
import HandS.Property
import HandS.HeadNt
import KE.KDictSum
import HandS.Small
import HandS.ExcOwn
import PyProof.ExcBaseAll.ValueError
import HandS.DictTup
import PyProof.TupleOfSeq
import HandS.Set
import HandS.SetTxt0
import HandS.SetFor
import HandS.Strs
import HandS.ExcIs
import HandS.HeadHook4
import HandS.SlotsOwn
import KE.KExcIs
import HandS.Comp
import KE.KDictDisplayH
import KE.DataMinMax
import PySem.Challenge.RW_classhouse_k86_whole_use_rings
set_option Elab.async false
set_option linter.all false
set_option maxRecDepth 100000
/-! the data layer: plain data for Python values, and what stands for them in the heap -/
namespace DL
open PySem PySem.Spec PyProof.Rows L2

inductive D where
  | non | bl (b : Bool) | int (i : Int) | str (x : Str)
  | tup (ds : List D) | ctp (ds : List D) | lst (ds : List D) | dct (kvs : List (D × D)) | dtt (kvs : List (D × D))
  | ins (c : Str) (fs : List (Str × D)) | obj (n : Nat) | cls (c : Str) | dno (ks : List (Option Int))

inductive SO where
  | lst (ds : List D) | dct (kvs : List (D × D)) | dtt (kvs : List (D × D)) | ins (c : Str) (fs : List (Str × D))

abbrev DEnv := List (Option D)
abbrev Sto := List SO

inductive Res where
  | ok (d : D) (S : Sto) | exn (x : D) (S : Sto) | stuck

inductive SRes where
  | nx (ρ : DEnv) (S : Sto) | rt (d : D) (S : Sto) | bk (ρ : DEnv) (S : Sto) | ct (ρ : DEnv) (S : Sto) | exn (x : D) (ρ : DEnv) (S : Sto) | stuck

abbrev EF := DEnv → Sto → Res
abbrev SF := DEnv → Sto → SRes
abbrev FF := List D → Sto → Res

def Res.bind (r : Res) (f : D → Sto → Res) : Res := match r with
  | .ok d S => f d S
  | .exn x S => .exn x S
  | .stuck => .stuck
@[simp] theorem Res.bind_ok (d : D) (S : Sto) (f : D → Sto → Res) : (Res.ok d S).bind f = f d S := rfl
def Res.ofOpt (o : Option D) (S : Sto) : Res := match o with
  | some d => .ok d S
  | none => .stuck
@[simp] theorem Res.ofOpt_some (d : D) (S : Sto) : Res.ofOpt (some d) S = .ok d S := rfl
/-- where things stand: what is frozen, the store's addresses -/
structure Wit where
  F : Hp
  phi : Nat → Addr
  m : Nat
  T : List (Addr × Str)

def kD : Key → D
  | .inl i => .int i
  | .inr x => .str x

/-! ### a dict that tells True at None, at numbers -/
def dnK : Option Int → Option Key := fun k => k.map Sum.inl
def dnE (k : Option Int) : Option Key × Value := (dnK k, .bool true)
/-- the dict at a: True at the keys ks -/
def DNo (a : Addr) (ks : List (Option Int)) : HO := .ext fun h => (∃ o es ep, h.get? a = some o ∧ o.data = .dict es ep) ∧ (a == sysModules) = false ∧ ∀ (P : Program) (w : World), h.DictOf (noneKind P w) a (ks.map dnE)
theorem dn_pairs {P P' : Program} {w w' : World} {es : List DictEntry} {kvs : List (Option Key × Value)} (h : Pairs (noneKind P w) es kvs) : Pairs (noneKind P' w') es kvs := by
  induction h with
  | nil => exact .nil
  | cons h1 h2 _ ih => exact .cons h1 h2 ih
theorem dn_key {P : Program} {w : World} {es : List DictEntry} {kvs : List (Option Key × Value)} (h : Pairs (noneKind P w) es kvs) {e : DictEntry} (he : e ∈ es) : ∃ kv ∈ kvs, (noneKind P w).is kv.1 e.key = true := by
  induction h with
  | nil => cases he
  | cons h1 _ _ ih =>
    rcases List.mem_cons.mp he with rfl | he
    · exact ⟨_, List.mem_cons_self .., h1⟩
    · obtain ⟨kv, h2, h3⟩ := ih he
      exact ⟨kv, List.mem_cons_of_mem _ h2, h3⟩
theorem dn_all {P P' : Program} {w w' : World} {h : Heap} {a : Addr} {ks : List (Option Int)} (x : h.DictOf (noneKind P w) a (ks.map dnE)) : h.DictOf (noneKind P' w') a (ks.map dnE) := by
  obtain ⟨o, es, ep, h1, h2, h3, h4, h5, h6⟩ := x
  refine ⟨o, es, ep, h1, h2, h3, fun e he => ?_, dn_pairs h5, h6⟩
  obtain ⟨k, q1, q2⟩ := h4 e he
  obtain ⟨kv, m1, m2⟩ := dn_key h5 (Array.mem_toList_iff.mpr he)
  have ek : k = kv.1 := (noneKind P w).inj _ _ _ q1 m2
  obtain ⟨j, _, ej⟩ := List.mem_map.mp m1
  refine ⟨k, q1, q2.trans ?_⟩
  rw [ek, ← ej]
  cases j <;> rfl
theorem dn_stay {a : Addr} {ks : List (Option Int)} (h1 h2 : Heap) (x : (∃ o es ep, h1.get? a = some o ∧ o.data = .dict es ep) ∧ (a == sysModules) = false ∧ ∀ (P : Program) (w : World), h1.DictOf (noneKind P w) a (ks.map dnE)) (k : ∀ o, h1.get? a = some o → h2.get? a = some o) :
    (∃ o es ep, h2.get? a = some o ∧ o.data = .dict es ep) ∧ (a == sysModules) = false ∧ ∀ (P : Program) (w : World), h2.DictOf (noneKind P w) a (ks.map dnE) := by
  obtain ⟨⟨o, es, ep, e1, e2⟩, hs, x⟩ := x
  refine ⟨⟨o, es, ep, k _ e1, e2⟩, hs, fun P w => ?_⟩
  obtain ⟨o, es, ep, h1, h⟩ := x P w
  exact ⟨o, es, ep, k _ h1, h⟩
theorem dn_ok {P : Program} {w : World} {H : Hp} {h : Heap} {a : Addr} {ks : List (Option Int)} (hs : (a == sysModules) = false) (x : h.DictOf (noneKind P w) a (ks.map dnE)) : ObjOk P w H h a (DNo a ks) := by
  obtain ⟨o, es, ep, h1, h2⟩ := id x
  exact ⟨⟨⟨o, es, ep, h1, h2.2.1⟩, hs, fun P' w' => dn_all x⟩, ⟨o, h1⟩, fun g1 g2 => dn_stay g1 g2⟩
theorem dn_of {P : Program} {w : World} {H : Hp} {h : Heap} {a : Addr} {ks : List (Option Int)} (x : ObjOk P w H h a (DNo a ks)) : (a == sysModules) = false ∧ h.DictOf (noneKind P w) a (ks.map dnE) := ⟨x.1.2.1, x.1.2.2 P w⟩
theorem dn_nocode {a c : Addr} {q : Str} {ks : List (Option Int)} : LamX.CodeO c q ≠ DNo a ks := by
  intro e
  unfold LamX.CodeO DNo at e
  injection e with e
  let ob : Obj := { cls := .none, data := .fields #[.none, .str q 0] }
  have e1 := congrFun e (⟨(List.replicate (c + 1) ob).toArray, {}⟩ : Heap)
  have l : ∀ b o, (⟨(List.replicate (c + 1) ob).toArray, {}⟩ : Heap).get? b = some o → o = ob := by
    intro b o h
    unfold Heap.get? at h
    simp only [List.getElem?_toArray, List.getElem?_replicate] at h
    by_cases hb : b < c + 1
    · rw [if_pos hb] at h; exact (Option.some.inj h).symm
    · rw [if_neg hb] at h; cases h
  have p : (∃ (oc : Obj) (vs : Array Value) (t : Tok), (⟨(List.replicate (c + 1) ob).toArray, {}⟩ : Heap).get? c = some oc ∧ oc.data = .fields vs ∧ vs[1]? = some (.str q t)) := by
    refine ⟨ob, _, 0, ?_, rfl, rfl⟩
    unfold Heap.get?
    simp only [List.getElem?_toArray, List.getElem?_replicate]
    rw [if_pos (Nat.lt_succ_self c)]
  obtain ⟨⟨o, es, ep, g1, g2⟩, _⟩ := e1.mp p
  rw [l _ _ g1] at g2
  cases g2

mutual
inductive Rep (K : PySem.W.Frag) (w : Wit) : D → V → Prop
  | non : Rep K w .non .non
  | bl (b : Bool) : Rep K w (.bl b) (.bl b)
  | int (i : Int) : Rep K w (.int i) (.int i)
  | str (x : Str) : Rep K w (.str x) (.str x)
  | tup {a : Addr} {vs : List V} {ds : List D} (h : w.F a = some (.tup vs)) (r : Reps K w ds vs) : Rep K w (.tup ds) (.ref a)
  | ctp {a : Addr} {vs : List V} {ds : List D} (h : SqT K (fun _ => none) a vs) (r : Reps K w ds vs) : Rep K w (.ctp ds) (.ref a)
  | lst {a : Addr} {vs : List V} {ds : List D} (h : SqL K w.F a vs) (r : Reps K w ds vs) : Rep K w (.lst ds) (.ref a)
  | dK {a : Addr} {vs : List (Key × V)} {ds : List (D × D)} (h : Rd w.F a (.dK vs)) (r : RepK K w ds vs) : Rep K w (.dct ds) (.ref a)
  | dT {a : Addr} {vs : List (List Key × V)} {ds : List (D × D)} (h : w.F a = some (.dT vs)) (r : RepT K w ds vs) : Rep K w (.dtt ds) (.ref a)
  | ins {a dx : Addr} {c : Str} {fs : List (Str × D)} {vs : List (Str × V)} (h : w.F a = some (.ins (He.ga K c) dx vs)) (r : RepF K w fs vs) : Rep K w (.ins c fs) (.ref a)
  | obj {n : Nat} (h : n < w.m) : Rep K w (.obj n) (.ref (w.phi n))
  | cls (c : Str) : Rep K w (.cls c) (.ref (He.ga K c))
  | dN {a : Addr} {ks : List (Option Int)} (h : w.F a = some (DNo a ks)) : Rep K w (.dno ks) (.ref a)
inductive Reps (K : PySem.W.Frag) (w : Wit) : List D → List V → Prop
  | nil : Reps K w [] []
  | cons {d : D} {v : V} {ds : List D} {vs : List V} (h : Rep K w d v) (t : Reps K w ds vs) : Reps K w (d :: ds) (v :: vs)
inductive RepK (K : PySem.W.Frag) (w : Wit) : List (D × D) → List (Key × V) → Prop
  | nil : RepK K w [] []
  | cons {k : Key} {d : D} {v : V} {ds : List (D × D)} {vs : List (Key × V)} (h : Rep K w d v) (t : RepK K w ds vs) : RepK K w ((kD k, d) :: ds) ((k, v) :: vs)
inductive RepT (K : PySem.W.Frag) (w : Wit) : List (D × D) → List (List Key × V) → Prop
  | nil : RepT K w [] []
  | cons {k : List Key} {d : D} {v : V} {ds : List (D × D)} {vs : List (List Key × V)} (h : Rep K w d v) (t : RepT K w ds vs) : RepT K w ((.tup (k.map kD), d) :: ds) ((k, v) :: vs)
inductive RepF (K : PySem.W.Frag) (w : Wit) : List (Str × D) → List (Str × V) → Prop
  | nil : RepF K w [] []
  | cons {k : Str} {d : D} {v : V} {ds : List (Str × D)} {vs : List (Str × V)} (h : Rep K w d v) (t : RepF K w ds vs) : RepF K w ((k, d) :: ds) ((k, v) :: vs)
end

/-- w' knows all that w knows -/
structure Le (w w' : Wit) : Prop where
  F : ∀ a o, w.F a = some o → w'.F a = some o
  phi : ∀ n, n < w.m → w'.phi n = w.phi n
  le : w.m ≤ w'.m
  T : w'.T = w.T
theorem Le.refl (w : Wit) : Le w w := ⟨fun _ _ h => h, fun _ _ => rfl, Nat.le_refl _, rfl⟩
theorem Le.trans {a b c : Wit} (h : Le a b) (k : Le b c) : Le a c :=
  ⟨fun x o e => k.F x o (h.F x o e), fun n e => (k.phi n (Nat.lt_of_lt_of_le e h.le)).trans (h.phi n e), Nat.le_trans h.le k.le, k.T.trans h.T⟩

theorem Rd.monoF {F F' : Hp} {a : Addr} {u : HO} (h : ∀ a o, F a = some o → F' a = some o) (r : Rd F a u) : Rd F' a u := by
  rcases r with r | ⟨o, r⟩
  · exact .inl (h _ _ r)
  · exact .inr ⟨o, h _ _ r⟩
theorem none_le {F : Hp} : ∀ a o, (fun _ : Addr => (none : Option HO)) a = some o → F a = some o := by
  intro a o h
  cases (show (none : Option HO) = some o from h)
theorem SqL.monoF {K : PySem.W.Frag} {F F' : Hp} {a : Addr} {vs : List V} (h : ∀ a o, F a = some o → F' a = some o) (r : SqL K F a vs) : SqL K F' a vs := by
  rcases r with r | r
  · exact .inl (Rd.monoF h r)
  · exact .inr r
theorem SqT.monoF {K : PySem.W.Frag} {F F' : Hp} {a : Addr} {vs : List V} (h : ∀ a o, F a = some o → F' a = some o) (r : SqT K F a vs) : SqT K F' a vs := by
  rcases r with r | r
  · exact .inl (Rd.monoF h r)
  · exact .inr r

section
variable {K : PySem.W.Frag} {w w' : Wit}
mutual
theorem Rep.mono (l : Le w w') : ∀ {d : D} {v : V}, Rep K w d v → Rep K w' d v
  | _, _, .non => .non
  | _, _, .bl b => .bl b
  | _, _, .int b => .int b
  | _, _, .str b => .str b
  | _, _, .tup h r => .tup (l.F _ _ h) (Reps.mono l r)
  | _, _, .ctp h r => .ctp h (Reps.mono l r)
  | _, _, .lst h r => .lst (SqL.monoF l.F h) (Reps.mono l r)
  | _, _, .dK h r => .dK (h.imp (l.F _ _) fun ⟨o, e⟩ => ⟨o, l.F _ _ e⟩) (RepK.mono l r)
  | _, _, .dT h r => .dT (l.F _ _ h) (RepT.mono l r)
  | _, _, .ins h r => .ins (l.F _ _ h) (RepF.mono l r)
  | _, _, .obj h => l.phi _ h ▸ Rep.obj (Nat.lt_of_lt_of_le h l.le)
  | _, _, .cls c => .cls c
  | _, _, .dN h => .dN (l.F _ _ h)
theorem Reps.mono (l : Le w w') : ∀ {ds : List D} {vs : List V}, Reps K w ds vs → Reps K w' ds vs
  | _, _, .nil => .nil
  | _, _, .cons h t => .cons (Rep.mono l h) (Reps.mono l t)
theorem RepK.mono (l : Le w w') : ∀ {ds : List (D × D)} {vs : List (Key × V)}, RepK K w ds vs → RepK K w' ds vs
  | _, _, .nil => .nil
  | _, _, .cons h t => .cons (Rep.mono l h) (RepK.mono l t)
theorem RepT.mono (l : Le w w') : ∀ {ds : List (D × D)} {vs : List (List Key × V)}, RepT K w ds vs → RepT K w' ds vs
  | _, _, .nil => .nil
  | _, _, .cons h t => .cons (Rep.mono l h) (RepT.mono l t)
theorem RepF.mono (l : Le w w') : ∀ {ds : List (Str × D)} {vs : List (Str × V)}, RepF K w ds vs → RepF K w' ds vs
  | _, _, .nil => .nil
  | _, _, .cons h t => .cons (Rep.mono l h) (RepF.mono l t)
end
theorem Reps.length {ds : List D} {vs : List V} (h : Reps K w ds vs) : ds.length = vs.length := by
  induction ds generalizing vs with
  | nil => cases h; rfl
  | cons d ds ih => cases h with | cons h t => simp [ih t]
theorem Reps.get {ds : List D} {vs : List V} (h : Reps K w ds vs) {i : Nat} {d : D} (e : ds[i]? = some d) : ∃ v, vs[i]? = some v ∧ Rep K w d v := by
  induction ds generalizing vs i with
  | nil => simp at e
  | cons x ds ih => cases h with
    | cons h t =>
      cases i with
      | zero => simp at e; subst e; exact ⟨_, rfl, h⟩
      | succ i => simpa using ih t (by simpa using e)
theorem Reps.append {ds es : List D} {vs us : List V} (h : Reps K w ds vs) (k : Reps K w es us) : Reps K w (ds ++ es) (vs ++ us) := by
  induction ds generalizing vs with
  | nil => cases h; exact k
  | cons x ds ih => cases h with | cons h t => exact .cons h (ih t)
theorem Reps.take {ds : List D} {vs : List V} (h : Reps K w ds vs) (n : Nat) : Reps K w (ds.take n) (vs.take n) := by
  induction ds generalizing vs n with
  | nil => cases h; simpa using Reps.nil
  | cons x ds ih => cases h with
    | cons h t => cases n with
      | zero => exact .nil
      | succ n => exact .cons h (ih t n)
theorem Reps.drop {ds : List D} {vs : List V} (h : Reps K w ds vs) (n : Nat) : Reps K w (ds.drop n) (vs.drop n) := by
  induction ds generalizing vs n with
  | nil => cases h; simpa using Reps.nil
  | cons x ds ih => cases h with
    | cons h t => cases n with
      | zero => exact .cons h t
      | succ n => exact ih t n
theorem Reps.reverse {ds : List D} {vs : List V} (h : Reps K w ds vs) : Reps K w ds.reverse vs.reverse := by
  induction ds generalizing vs with
  | nil => cases h; exact .nil
  | cons x ds ih => cases h with | cons h t => simpa using (ih t).append (.cons h .nil)
theorem Reps.set {ds : List D} {vs : List V} (h : Reps K w ds vs) (i : Nat) {d : D} {v : V} (r : Rep K w d v) : Reps K w (ds.set i d) (vs.set i v) := by
  induction ds generalizing vs i with
  | nil => cases h; exact .nil
  | cons x ds ih => cases h with
    | cons h t => cases i with
      | zero => exact .cons r t
      | succ n => exact .cons h (ih t n)
theorem Reps.dropLast {ds : List D} {vs : List V} (h : Reps K w ds vs) : Reps K w ds.dropLast vs.dropLast := by
  have := h.take (ds.length - 1)
  rw [List.dropLast_eq_take, List.dropLast_eq_take, ← h.length]
  exact this
end

/-- what stands in the store -/
def RepO (K : PySem.W.Frag) (w : Wit) (H : Hp) (a : Addr) : SO → Prop
  | .lst ds => ∃ vs, H a = some (.lst vs) ∧ Reps K w ds vs
  | .dct ds => ∃ vs, H a = some (.dK vs) ∧ RepK K w ds vs
  | .dtt ds => ∃ vs, H a = some (.dT vs) ∧ RepT K w ds vs
  | .ins c fs => ∃ dx vs, H a = some (.ins (He.ga K c) dx vs) ∧ RepF K w fs vs

theorem RepO.mono {K : PySem.W.Frag} {w w' : Wit} {H H' : Hp} {a : Addr} (l : Le w w') (h : ∀ o, H a = some o → H' a = some o) : ∀ {o : SO}, RepO K w H a o → RepO K w' H' a o
  | .lst _, ⟨vs, e, r⟩ => ⟨vs, h _ e, r.mono l⟩
  | .dct _, ⟨vs, e, r⟩ => ⟨vs, h _ e, r.mono l⟩
  | .dtt _, ⟨vs, e, r⟩ => ⟨vs, h _ e, r.mono l⟩
  | .ins _ _, ⟨dx, vs, e, r⟩ => ⟨dx, vs, h _ e, r.mono l⟩
theorem RepO.there {K : PySem.W.Frag} {w : Wit} {H : Hp} {a : Addr} : ∀ {o : SO}, RepO K w H a o → H a ≠ none
  | .lst _, ⟨vs, e, r⟩ => by rw [e]; simp
  | .dct _, ⟨vs, e, r⟩ => by rw [e]; simp
  | .dtt _, ⟨vs, e, r⟩ => by rw [e]; simp
  | .ins _ _, ⟨dx, vs, e, r⟩ => by rw [e]; simp

/-- tables of code objects -/
structure Tbs (w : Wit) (H : Hp) : Prop where
  t : LamX.Tabs w.T H
  f : ∀ a ps, w.F a ≠ some (.tbl ps)
theorem RepO.notbl {K : PySem.W.Frag} {w : Wit} {H : Hp} {a : Addr} {ps : Array Value} : ∀ {o : SO}, RepO K w H a o → H a ≠ some (.tbl ps)
  | .lst _, ⟨vs, e, r⟩ => by rw [e]; simp
  | .dct _, ⟨vs, e, r⟩ => by rw [e]; simp
  | .dtt _, ⟨vs, e, r⟩ => by rw [e]; simp
  | .ins _ _, ⟨dx, vs, e, r⟩ => by rw [e]; simp
theorem codeO_ne' {c : Addr} {q : Str} {o : HO} (h : ∀ f, o ≠ .ext f) : LamX.CodeO c q ≠ o := fun e => h _ e.symm
theorem RepO.nocode {K : PySem.W.Frag} {w : Wit} {H : Hp} {a c : Addr} {q : Str} : ∀ {o : SO}, RepO K w H a o → H a ≠ some (LamX.CodeO c q)
  | .lst _, ⟨vs, e, r⟩ => by rw [e]; intro z; exact codeO_ne' (fun f z => by cases z) (Option.some.inj z).symm
  | .dct _, ⟨vs, e, r⟩ => by rw [e]; intro z; exact codeO_ne' (fun f z => by cases z) (Option.some.inj z).symm
  | .dtt _, ⟨vs, e, r⟩ => by rw [e]; intro z; exact codeO_ne' (fun f z => by cases z) (Option.some.inj z).symm
  | .ins _ _, ⟨dx, vs, e, r⟩ => by rw [e]; intro z; exact codeO_ne' (fun f z => by cases z) (Option.some.inj z).symm
theorem Tbs.to {w w' : Wit} {H H' : Hp} (t : Tbs w H) (e : w'.T = w.T) (hf : ∀ a ps, w'.F a ≠ some (.tbl ps)) (k : ∀ b o, H b = some o → (∃ ps, o = .tbl ps) ∨ (∃ c q, o = LamX.CodeO c q) → H' b = some o) : Tbs w' H' where
  t := fun p hp => by
    rw [e] at hp
    obtain ⟨ps, h1, h2, h3⟩ := t.t p hp
    refine ⟨ps, k _ _ h1 (.inl ⟨_, rfl⟩), h2, fun pos cv hc => ?_⟩
    obtain ⟨c, e1, e2⟩ := h3 pos cv hc
    exact ⟨c, e1, k _ _ e2 (.inr ⟨_, _, rfl⟩)⟩
  f := hf
/-- the heap bears the store -/
structure Gd (K : PySem.W.Frag) (w : Wit) (H : Hp) (S : Sto) : Prop where
  len : w.m = S.length
  sub : ∀ a o, w.F a = some o → H a = some o
  sto : ∀ n o, S[n]? = some o → RepO K w H (w.phi n) o
  inj : ∀ i j, i < w.m → j < w.m → w.phi i = w.phi j → i = j
  nofz : ∀ i, i < w.m → w.F (w.phi i) = none
  tab : Tbs w H

/-- a thing that is no tuple -/
def NT (o : Option HO) : Prop := ∃ u, o = some u ∧ ∀ vs ps, ¬ (u = .tup vs ∨ u = .tbl ps)
theorem NT.ne {o : Option HO} (h : NT o) : o ≠ none := by
  obtain ⟨u, e, _⟩ := h
  rw [e]; simp
/-- nothing of ours -/
def Nb (o : Option HO) : Prop := o = none ∨ ∃ ps, o = some (.tbl ps)
instance nbCoe {o : Option HO} : Coe (o = none) (Nb o) := ⟨.inl⟩
theorem Nb.of {o : Option HO} (h : o = none) : Nb o := .inl h
theorem not_nb {o : Option HO} {u : HO} (e : o = some u) (h : ∀ ps, u ≠ .tbl ps) : ¬ Nb o := by
  rintro (q | ⟨ps, q⟩)
  · rw [e] at q; cases q
  · rw [e] at q; cases q; exact h ps rfl
theorem NT.nb {o : Option HO} (h : NT o) : ¬ Nb o := by
  obtain ⟨u, e, k⟩ := h
  exact not_nb e fun ps z => k [] ps (.inr z)
/-- from one state to a later one: nothing but the store's objects has changed -/
structure Ext (w : Wit) (H : Hp) (w' : Wit) (H' : Hp) : Prop where
  le : Le w w'
  new : ∀ n, w.m ≤ n → n < w'.m → Nb (H (w'.phi n))
  keep : ∀ a o, H a = some o → ((∃ n, n < w.m ∧ w.phi n = a) ∨ ∃ ps, o = .tbl ps) ∨ H' a = some o
  there : ∀ a, Nb (H' a) → Nb (H a)
  fz : ∀ a, NT (H a) → w.F a = none → w'.F a = none ∧ NT (H' a)
theorem Ext.refl (w : Wit) (H : Hp) : Ext w H w H := ⟨.refl w, fun n h k => absurd k (Nat.not_lt.mpr h), fun _ _ h => .inr h, fun _ h => h, fun _ h k => ⟨k, h⟩⟩
theorem Ext.trans {w w1 w2 : Wit} {H H1 H2 : Hp} (a : Ext w H w1 H1) (b : Ext w1 H1 w2 H2) : Ext w H w2 H2 where
  le := a.le.trans b.le
  new := fun n h k => by
    by_cases c : n < w1.m
    · rw [b.le.phi n c]; exact a.new n h c
    · exact a.there _ (b.new n (Nat.not_lt.mp c) k)
  keep := fun x o e => by
    rcases a.keep x o e with h | h
    · exact .inl h
    · rcases b.keep x o h with (⟨n, hn, en⟩ | h) | h
      · by_cases c : n < w.m
        · exact .inl (.inl ⟨n, c, (a.le.phi n c).symm.trans en⟩)
        · have := a.new n (Nat.not_lt.mp c) hn
          rw [en, e] at this
          rcases this with z | ⟨ps, z⟩
          · cases z
          · cases z; exact .inl (.inr ⟨_, rfl⟩)
      · exact .inl (.inr h)
      · exact .inr h
  there := fun x h => a.there x (b.there x h)
  fz := fun x h k => b.fz x (a.fz x h k).2 (a.fz x h k).1

/-- a list or a dict that nobody else knows -/
def Own (K : PySem.W.Frag) (w : Wit) (H : Hp) (d : D) (a : Addr) : Prop :=
  w.F a = none ∧ (∀ n, n < w.m → w.phi n ≠ a) ∧ match d with
    | .lst ds => ∃ vs, H a = some (.lst vs) ∧ Reps K w ds vs
    | .dct ds => ∃ vs, H a = some (.dK vs) ∧ RepK K w ds vs
    | .dtt ds => ∃ vs, H a = some (.dT vs) ∧ RepT K w ds vs
    | .dno ks => H a = some (DNo a ks)
    | _ => False
theorem Own.there {K : PySem.W.Frag} {w : Wit} {H : Hp} {d : D} {a : Addr} (h : Own K w H d a) : H a ≠ none := by
  obtain ⟨_, _, h⟩ := h
  cases d with
  | lst ds => obtain ⟨vs, e, _⟩ := h; rw [e]; simp
  | dct ds => obtain ⟨vs, e, _⟩ := h; rw [e]; simp
  | dtt ds => obtain ⟨vs, e, _⟩ := h; rw [e]; simp
  | dno ds => rw [show H a = some (DNo a ds) from h]; unfold DNo; simp
  | _ => exact h.elim
theorem Own.notbl {K : PySem.W.Frag} {w : Wit} {H : Hp} {d : D} {a : Addr} {ps : Array Value} (h : Own K w H d a) : H a ≠ some (.tbl ps) := by
  obtain ⟨_, _, h⟩ := h
  cases d with
  | lst ds => obtain ⟨vs, e, _⟩ := h; rw [e]; simp
  | dct ds => obtain ⟨vs, e, _⟩ := h; rw [e]; simp
  | dtt ds => obtain ⟨vs, e, _⟩ := h; rw [e]; simp
  | dno ds => rw [show H a = some (DNo a ds) from h]; unfold DNo; simp
  | _ => exact h.elim
theorem Own.nocode {K : PySem.W.Frag} {w : Wit} {H : Hp} {d : D} {a c : Addr} {q : Str} (h : Own K w H d a) : H a ≠ some (LamX.CodeO c q) := by
  obtain ⟨_, _, h⟩ := h
  cases d with
  | lst ds => obtain ⟨vs, e, _⟩ := h; rw [e]; intro z; exact codeO_ne' (fun f z => by cases z) (Option.some.inj z).symm
  | dct ds => obtain ⟨vs, e, _⟩ := h; rw [e]; intro z; exact codeO_ne' (fun f z => by cases z) (Option.some.inj z).symm
  | dtt ds => obtain ⟨vs, e, _⟩ := h; rw [e]; intro z; exact codeO_ne' (fun f z => by cases z) (Option.some.inj z).symm
  | dno ds => rw [show H a = some (DNo a ds) from h]; intro z; exact dn_nocode (Option.some.inj z).symm
  | _ => exact h.elim
theorem Own.nt {K : PySem.W.Frag} {w : Wit} {H : Hp} {d : D} {a : Addr} (h : Own K w H d a) : NT (H a) := by
  obtain ⟨_, _, h⟩ := h
  cases d with
  | lst ds => obtain ⟨vs, e, _⟩ := h; exact ⟨_, e, fun _ _ q => by rcases q with q | q <;> cases q⟩
  | dct ds => obtain ⟨vs, e, _⟩ := h; exact ⟨_, e, fun _ _ q => by rcases q with q | q <;> cases q⟩
  | dtt ds => obtain ⟨vs, e, _⟩ := h; exact ⟨_, e, fun _ _ q => by rcases q with q | q <;> cases q⟩
  | dno ds => exact ⟨_, show H a = some (DNo a ds) from h, fun _ _ q => by rcases q with q | q <;> (unfold DNo at q; cases q)⟩
  | _ => exact h.elim
theorem Own.ext {K : PySem.W.Frag} {w w' : Wit} {H H' : Hp} {d : D} {a : Addr} (h : Own K w H d a) (x : Ext w H w' H') : Own K w' H' d a := by
  have ht := h.there
  have hn' := h.nt
  obtain ⟨h1, h2, h3⟩ := h
  have ow : Own K w H d a := ⟨h1, h2, h3⟩
  have kp : ∀ o, H a = some o → H' a = some o := fun o e => by
    rcases x.keep a o e with (⟨n, hn, en⟩ | ⟨ps, q⟩) | q
    · exact absurd en (h2 n hn)
    · exact absurd (q ▸ e) ow.notbl
    · exact q
  refine ⟨(x.fz a hn' h1).1, fun n hn e => ?_, ?_⟩
  · by_cases c : n < w.m
    · exact h2 n c ((x.le.phi n c).symm.trans e)
    · exact hn'.nb (e ▸ x.new n (Nat.not_lt.mp c) hn)
  · cases d with
    | lst ds => obtain ⟨vs, e, r⟩ := h3; exact ⟨vs, kp _ e, r.mono x.le⟩
    | dct ds => obtain ⟨vs, e, r⟩ := h3; exact ⟨vs, kp _ e, r.mono x.le⟩
    | dtt ds => obtain ⟨vs, e, r⟩ := h3; exact ⟨vs, kp _ e, r.mono x.le⟩
    | dno ds => exact kp _ h3
    | _ => exact h3.elim
/-- it becomes known to all, and fixed -/
def Wit.fix (w : Wit) (H : Hp) (a : Addr) : Wit := { w with F := fun b => if b = a then H a else w.F b }
theorem Le.fix {w : Wit} {H : Hp} {a : Addr} (h : w.F a = none) : Le w (w.fix H a) :=
  ⟨fun b o e => by unfold Wit.fix; simp only; split
                   · rename_i q; rw [q, h] at e; cases e
                   · exact e, fun _ _ => rfl, Nat.le_refl _, rfl⟩
theorem Own.rep {K : PySem.W.Frag} {w : Wit} {H : Hp} {d : D} {a : Addr} (h : Own K w H d a) : Rep K (w.fix H a) d (.ref a) := by
  obtain ⟨h1, h2, h3⟩ := h
  have l := Le.fix (H := H) h1
  have fa : (w.fix H a).F a = H a := by unfold Wit.fix; simp
  cases d with
  | lst ds => obtain ⟨vs, e, r⟩ := h3; exact .lst (.inl (.inl (fa.trans e))) (r.mono l)
  | dct ds => obtain ⟨vs, e, r⟩ := h3; exact .dK (.inl (fa.trans e)) (r.mono l)
  | dtt ds => obtain ⟨vs, e, r⟩ := h3; exact .dT (fa.trans e) (r.mono l)
  | dno ds => exact .dN (fa.trans h3)
  | _ => exact h3.elim
theorem Gd.fix {K : PySem.W.Frag} {w : Wit} {H : Hp} {S : Sto} {a : Addr} (g : Gd K w H S) (h1 : w.F a = none) (h2 : ∀ n, n < w.m → w.phi n ≠ a) (h3 : ∀ ps, H a ≠ some (.tbl ps)) : Gd K (w.fix H a) H S where
  len := g.len
  sub := fun b o e => by
    unfold Wit.fix at e; simp only at e; split at e
    · rename_i q; rw [q]; exact e
    · exact g.sub b o e
  sto := fun n o e => (g.sto n o e).mono (Le.fix h1) fun _ z => z
  inj := g.inj
  nofz := fun i hi => by
    unfold Wit.fix; simp only
    rw [if_neg (h2 i hi)]
    exact g.nofz i hi
  tab := g.tab.to rfl (fun b ps e => by
    unfold Wit.fix at e; simp only at e; split at e
    · exact h3 ps e
    · exact g.tab.f b ps e) fun b o e _ => e
theorem Ext.fix {w w' : Wit} {H H' : Hp} {a : Addr} (x : Ext w H w' H') (h1 : w'.F a = none) (h2 : Nb (H a)) : Ext w H (w'.fix H' a) H' where
  le := x.le.trans (Le.fix h1)
  new := x.new
  keep := x.keep
  there := x.there
  fz := fun b hb e => by
    unfold Wit.fix; simp only
    rw [if_neg (fun q : b = a => hb.nb (by rw [q]; exact h2))]
    exact x.fz b hb e

/-! ### exceptions -/
def RepX (K : PySem.W.Frag) (w : Wit) (H : Hp) (x : D) (cls : Value) (dx : Option Addr) : Prop :=
  ∃ c fs, x = .ins c fs ∧ cls = .ref (He.ga K c) ∧ ((dx = none ∧ fs = []) ∨ ∃ d vs, dx = some d ∧ H d = some (.xd vs) ∧ RepF K w fs vs ∧ fs ≠ [])
theorem RepX.mono {K : PySem.W.Frag} {w w' : Wit} {H : Hp} {x : D} {cls : Value} {dx : Option Addr} (l : Le w w') (h : RepX K w H x cls dx) : RepX K w' H x cls dx := by
  obtain ⟨c, fs, e1, e2, h⟩ := h
  refine ⟨c, fs, e1, e2, ?_⟩
  rcases h with h | ⟨d, vs, a, b, r⟩
  · exact .inl h
  · exact .inr ⟨d, vs, a, b, r.1.mono l, r.2⟩
theorem RepX.keeps {K : PySem.W.Frag} {w : Wit} {H H' : Hp} {x : D} {cls : Value} {dx : Option Addr} (h : RepX K w H x cls dx) (k : ∀ d vs, H d = some (.xd vs) → H' d = some (.xd vs)) : RepX K w H' x cls dx := by
  obtain ⟨c, fs, e1, e2, h⟩ := h
  refine ⟨c, fs, e1, e2, ?_⟩
  rcases h with h | ⟨d, vs, a, b, r⟩
  · exact .inl h
  · exact .inr ⟨d, vs, a, k _ _ b, r⟩
theorem RepO.noxd {K : PySem.W.Frag} {w : Wit} {H : Hp} {a : Addr} {fs : List (Str × V)} : ∀ {o : SO}, RepO K w H a o → H a ≠ some (.xd fs)
  | .lst _, ⟨vs, e, r⟩ => by rw [e]; intro z; cases z
  | .dct _, ⟨vs, e, r⟩ => by rw [e]; intro z; cases z
  | .dtt _, ⟨vs, e, r⟩ => by rw [e]; intro z; cases z
  | .ins _ _, ⟨dx, vs, e, r⟩ => by rw [e]; intro z; cases z
theorem Own.noxd {K : PySem.W.Frag} {w : Wit} {H : Hp} {d : D} {a : Addr} {fs : List (Str × V)} (h : Own K w H d a) : H a ≠ some (.xd fs) := by
  obtain ⟨_, _, h⟩ := h
  cases d with
  | lst ds => obtain ⟨vs, e, _⟩ := h; rw [e]; intro z; cases z
  | dct ds => obtain ⟨vs, e, _⟩ := h; rw [e]; intro z; cases z
  | dtt ds => obtain ⟨vs, e, _⟩ := h; rw [e]; intro z; cases z
  | dno ds => rw [show H a = some (DNo a ds) from h]; intro z; unfold DNo at z; cases z
  | _ => exact h.elim
theorem RepX.ext {K : PySem.W.Frag} {w w' : Wit} {H H' : Hp} {S : Sto} {x : D} {cls : Value} {dx : Option Addr} (h : RepX K w H x cls dx) (g : Gd K w H S) (y : Ext w H w' H') : RepX K w' H' x cls dx := by
  refine (h.keeps fun d vs e => ?_).mono y.le
  rcases y.keep d _ e with (⟨n, hn, en⟩ | ⟨ps, q⟩) | q
  · obtain ⟨o, ho⟩ : ∃ o, S[n]? = some o := ⟨_, List.getElem?_eq_getElem (by rw [← g.len]; exact hn)⟩
    exact absurd (en ▸ e) (g.sto n o ho).noxd
  · cases q
  · exact q
/-- the exception that an except suite has caught: its name's slot, where it stands, what it is -/
structure XC where
  i : Nat
  a : Addr
  cls : Value
  dx : Option Addr
  x : D
  th : Option (Wit × Hp)
  T : List (Addr × Str)

/-! ### the state of a def's body -/
structure Ent (Z : Option XC) where
  w : Wit
  H : Hp
  k : Wit

structure R (K : PySem.W.Frag) {Z : Option XC} (ent : Ent Z) (O : List Nat) (w : Wit) (H : Hp) (σ : L2.St) (ρ : DEnv) (S : Sto) : Prop where
  gd : Gd K w H S
  ext : Ext ent.w ent.H w H
  kn : Le ent.k w
  val : ∀ i d, ρ[i]? = some (some d) → i ∉ O → ∃ v, σ[i]? = some (some v) ∧ Rep K w d v
  own : ∀ i d, ρ[i]? = some (some d) → i ∈ O → ∃ a, σ[i]? = some (some (.ref a)) ∧ Own K w H d a ∧ Nb (ent.H a)
  dis : ∀ i j a, i ∈ O → j ∈ O → (∃ d, ρ[i]? = some (some d)) → (∃ d, ρ[j]? = some (some d)) → σ[i]? = some (some (.ref a)) → σ[j]? = some (some (.ref a)) → i = j
  len : ρ.length = σ.length
  exc : ∀ z, Z = some z → z.i ∈ O → ρ[z.i]? = some none → σ[z.i]? = some (some (.ref z.a)) ∧ RepX K w H z.x z.cls z.dx
  thk : ∀ z, Z = some z → (∀ p, z.th = some p → ent.w = p.1 ∧ ent.H = p.2) ∧ (z.T ≠ [] → w.T = z.T)

section
variable {K : PySem.W.Frag} {Z : Option XC} {ent : Ent Z} {O : List Nat} {w w' : Wit} {H H' : Hp} {σ : L2.St} {ρ : DEnv} {S S' : Sto}
theorem R.later (r : R K ent O w H σ ρ S) (x : Ext w H w' H') (g : Gd K w' H' S') : R K ent O w' H' σ ρ S' where
  gd := g
  ext := r.ext.trans x
  kn := r.kn.trans x.le
  val := fun i d e n => let ⟨v, h1, h2⟩ := r.val i d e n; ⟨v, h1, h2.mono x.le⟩
  own := fun i d e n => let ⟨a, h1, h2, h3⟩ := r.own i d e n; ⟨a, h1, h2.ext x, h3⟩
  dis := r.dis
  len := r.len
  exc := fun z hz hi hn => let ⟨h1, h2⟩ := r.exc z hz hi hn; ⟨h1, h2.ext r.gd x⟩
  thk := fun z hz => ⟨(r.thk z hz).1, fun h => x.le.T.trans ((r.thk z hz).2 h)⟩
/-- an own list becomes fixed -/
theorem R.drop1 (r : R K ent O w H σ ρ S) (i : Nat) (hi : i ∈ O) : ∃ w', Le w w' ∧ R K ent (O.filter (· ≠ i)) w' H σ ρ S := by
  cases e : ρ[i]? with
  | none =>
    refine ⟨w, .refl w, r.gd, r.ext, r.kn, fun j d h n => ?_, fun j d h n => r.own j d h (List.mem_filter.mp n).1, fun j k a hj hk => r.dis j k a (List.mem_filter.mp hj).1 (List.mem_filter.mp hk).1, r.len, fun z hz hi => r.exc z hz (List.mem_filter.mp hi).1, r.thk⟩
    refine r.val j d h fun hm => n (List.mem_filter.mpr ⟨hm, ?_⟩)
    simp only [ne_eq, decide_not, Bool.not_eq_eq_eq_not, Bool.not_true, decide_eq_false_iff_not]
    intro q; rw [q, e] at h; cases h
  | some o =>
    cases o with
    | none =>
      refine ⟨w, .refl w, r.gd, r.ext, r.kn, fun j d h n => ?_, fun j d h n => r.own j d h (List.mem_filter.mp n).1, fun j k a hj hk => r.dis j k a (List.mem_filter.mp hj).1 (List.mem_filter.mp hk).1, r.len, fun z hz hi => r.exc z hz (List.mem_filter.mp hi).1, r.thk⟩
      refine r.val j d h fun hm => n (List.mem_filter.mpr ⟨hm, ?_⟩)
      simp only [ne_eq, decide_not, Bool.not_eq_eq_eq_not, Bool.not_true, decide_eq_false_iff_not]
      intro q; rw [q, e] at h; cases h
    | some d0 =>
      obtain ⟨a, s1, s2, s3⟩ := r.own i d0 e hi
      have l := Le.fix (H := H) s2.1
      refine ⟨w.fix H a, l, r.gd.fix s2.1 s2.2.1 (fun ps => s2.notbl), r.ext.fix s2.1 s3, r.kn.trans l, fun j d h n => ?_, fun j d h n => ?_, fun j k a hj hk => r.dis j k a (List.mem_filter.mp hj).1 (List.mem_filter.mp hk).1, r.len, fun z hz hi hn => let ⟨h1, h2⟩ := r.exc z hz (List.mem_filter.mp hi).1 hn; ⟨h1, h2.mono l⟩, r.thk⟩
      · by_cases q : j = i
        · subst q
          rw [e] at h; cases h
          exact ⟨_, s1, s2.rep⟩
        · obtain ⟨v, h1, h2⟩ := r.val j d h fun hm => n (List.mem_filter.mpr ⟨hm, by simpa using q⟩)
          exact ⟨v, h1, h2.mono l⟩
      · obtain ⟨hm, q⟩ := List.mem_filter.mp n
        have q' : j ≠ i := by simpa using q
        obtain ⟨b, t1, t2, t3⟩ := r.own j d h hm
        have nab : b ≠ a := fun z => q' (r.dis j i b hm hi ⟨_, h⟩ ⟨_, e⟩ t1 (by rw [z]; exact s1))
        refine ⟨b, t1, ⟨?_, t2.2.1, ?_⟩, t3⟩
        · unfold Wit.fix; simp only; rw [if_neg nab]; exact t2.1
        · obtain ⟨_, _, t4⟩ := t2
          cases d with
          | lst ds => obtain ⟨vs, e, r⟩ := t4; exact ⟨vs, e, r.mono l⟩
          | dct ds => obtain ⟨vs, e, r⟩ := t4; exact ⟨vs, e, r.mono l⟩
          | dtt ds => obtain ⟨vs, e, r⟩ := t4; exact ⟨vs, e, r.mono l⟩
          | dno ds => exact t4
          | _ => exact t4.elim
theorem R.sub (r : R K ent O w H σ ρ S) {O' : List Nat} (h : ∀ i, i ∈ O ↔ i ∈ O') : R K ent O' w H σ ρ S :=
  ⟨r.gd, r.ext, r.kn, fun i d e n => r.val i d e (fun z => n ((h i).mp z)), fun i d e n => r.own i d e ((h i).mpr n), fun i j a hi hj => r.dis i j a ((h i).mpr hi) ((h j).mpr hj), r.len, fun z hz hi => r.exc z hz ((h _).mpr hi), r.thk⟩
/-- fewer own lists -/
theorem R.weak (r : R K ent O w H σ ρ S) (O' : List Nat) (h : ∀ i, i ∈ O' → i ∈ O) : ∃ w', Le w w' ∧ R K ent O' w' H σ ρ S := by
  have go : ∀ (L : List Nat) (O1 : List Nat) (w1 : Wit), R K ent O1 w1 H σ ρ S → (∀ i, i ∈ O' → i ∈ O1) → (∀ i, i ∈ O1 → i ∉ O' → i ∈ L) → ∃ w', Le w1 w' ∧ R K ent O' w' H σ ρ S := by
    intro L
    induction L with
    | nil =>
      intro O1 w1 r1 h1 h2
      refine ⟨w1, .refl _, r1.sub fun i => ⟨fun z => ?_, h1 i⟩⟩
      by_cases q : i ∈ O'
      · exact q
      · exact absurd (h2 i z q) (by simp)
    | cons a L ih =>
      intro O1 w1 r1 h1 h2
      by_cases q : a ∈ O1 ∧ a ∉ O'
      · obtain ⟨w2, l2, r2⟩ := r1.drop1 a q.1
        obtain ⟨w3, l3, r3⟩ := ih _ w2 r2 (fun i hi => List.mem_filter.mpr ⟨h1 i hi, by have z : i ≠ a := fun z => q.2 (z ▸ hi); simpa using z⟩) (fun i hi hn => by
          obtain ⟨u1, u2⟩ := List.mem_filter.mp hi
          rcases List.mem_cons.mp (h2 i u1 hn) with z | z
          · exact absurd z (by simpa using u2)
          · exact z)
        exact ⟨w3, l2.trans l3, r3⟩
      · refine ih O1 w1 r1 h1 fun i hi hn => ?_
        rcases List.mem_cons.mp (h2 i hi hn) with z | z
        · subst z; exact absurd ⟨hi, hn⟩ q
        · exact z
  exact go O O w r h fun i hi _ => hi
/-- a slot is stored, the value is known to all -/
theorem R.put (r : R K ent O w H σ ρ S) {i : Nat} {d : D} {v : V} (hi : i ∉ O) (h : Rep K w d v) : R K ent O w H (σ.set i (some v)) (ρ.set i (some d)) S where
  gd := r.gd
  ext := r.ext
  kn := r.kn
  val := fun j e hj n => by
    by_cases q : i = j
    · subst q
      have hl : i < ρ.length := by
        have := (List.getElem?_eq_some_iff.mp hj).1; simpa using this
      rw [List.getElem?_set_self hl] at hj; cases hj
      exact ⟨v, List.getElem?_set_self (by rw [← r.len]; exact hl), h⟩
    · rw [List.getElem?_set_ne q] at hj
      obtain ⟨u, h1, h2⟩ := r.val j e hj n
      exact ⟨u, by rw [List.getElem?_set_ne q]; exact h1, h2⟩
  own := fun j e hj n => by
    have q : i ≠ j := fun z => hi (z ▸ n)
    rw [List.getElem?_set_ne q] at hj
    obtain ⟨u, h1, h2⟩ := r.own j e hj n
    exact ⟨u, by rw [List.getElem?_set_ne q]; exact h1, h2⟩
  dis := fun j k a hj hk ej ek sj sk => by
    have q1 : i ≠ j := fun z => hi (z ▸ hj)
    have q2 : i ≠ k := fun z => hi (z ▸ hk)
    rw [List.getElem?_set_ne q1] at ej sj
    rw [List.getElem?_set_ne q2] at ek sk
    exact r.dis j k a hj hk ej ek sj sk
  len := by simpa using r.len
  exc := fun z hz hj hn => by
    have q : i ≠ z.i := fun e => hi (e ▸ hj)
    rw [List.getElem?_set_ne q] at hn ⊢
    exact r.exc z hz hj hn
  thk := r.thk
/-- a slot is stored, the value is the def's own -/
theorem R.putOwn (r : R K ent O w H σ ρ S) {i : Nat} {d : D} {a : Addr} (h : Own K w H d a) (he : Nb (ent.H a)) (hd : ∀ j, j ∈ O → j ≠ i → (∃ e, ρ[j]? = some (some e)) → σ[j]? ≠ some (some (.ref a))) :
    R K ent (i :: O) w H (σ.set i (some (.ref a))) (ρ.set i (some d)) S where
  gd := r.gd
  ext := r.ext
  kn := r.kn
  val := fun j e hj n => by
    have q : i ≠ j := fun z => n (by rw [z]; exact List.mem_cons_self)
    rw [List.getElem?_set_ne q] at hj
    obtain ⟨u, h1, h2⟩ := r.val j e hj fun z => n (List.mem_cons_of_mem _ z)
    exact ⟨u, by rw [List.getElem?_set_ne q]; exact h1, h2⟩
  own := fun j e hj n => by
    by_cases q : i = j
    · subst q
      have hl : i < ρ.length := by
        have := (List.getElem?_eq_some_iff.mp hj).1; simpa using this
      rw [List.getElem?_set_self hl] at hj; cases hj
      exact ⟨a, List.getElem?_set_self (by rw [← r.len]; exact hl), h, he⟩
    · rw [List.getElem?_set_ne q] at hj
      rcases List.mem_cons.mp n with z | z
      · exact absurd z.symm q
      · obtain ⟨u, h1, h2⟩ := r.own j e hj z
        exact ⟨u, by rw [List.getElem?_set_ne q]; exact h1, h2⟩
  dis := fun j k b hj hk ej ek sj sk => by
    by_cases q1 : i = j
    · by_cases q2 : i = k
      · exact q1.symm.trans q2
      · subst q1
        have hl : i < σ.length := by
          have := (List.getElem?_eq_some_iff.mp sj).1; simpa using this
        rw [List.getElem?_set_self hl] at sj; cases sj
        rw [List.getElem?_set_ne q2] at sk
        rcases List.mem_cons.mp hk with z | z
        · exact absurd z.symm q2
        · rw [List.getElem?_set_ne q2] at ek; exact absurd sk (hd k z (Ne.symm q2) ek)
    · rw [List.getElem?_set_ne q1] at ej sj
      have hj' : j ∈ O := (List.mem_cons.mp hj).elim (fun z => absurd z.symm q1) id
      by_cases q2 : i = k
      · subst q2
        have hl : i < σ.length := by
          have := (List.getElem?_eq_some_iff.mp sk).1; simpa using this
        rw [List.getElem?_set_self hl] at sk; cases sk
        exact absurd sj (hd j hj' (Ne.symm q1) ej)
      · rw [List.getElem?_set_ne q2] at ek sk
        exact r.dis j k b hj' ((List.mem_cons.mp hk).elim (fun z => absurd z.symm q2) id) ej ek sj sk
  len := by simpa using r.len
  exc := fun z hz hj hn => by
    by_cases q : i = z.i
    · have hl : i < ρ.length := by
        have := (List.getElem?_eq_some_iff.mp hn).1
        rw [q]; simpa using this
      rw [← q, List.getElem?_set_self hl] at hn; cases hn
    · rw [List.getElem?_set_ne q] at hn ⊢
      exact r.exc z hz ((List.mem_cons.mp hj).elim (fun e => absurd e.symm q) id) hn
  thk := r.thk
/-- the def's own list, dict is changed -/
theorem R.upd (r : R K ent O w H σ ρ S) {i : Nat} {d d' : D} {a : Addr} {o : HO} (hi : i ∈ O) (hd : ρ[i]? = some (some d)) (hs : σ[i]? = some (some (.ref a))) (h : Own K w (upd H a o) d' a) : R K ent O w (upd H a o) σ (ρ.set i (some d')) S := by
  obtain ⟨b, s1, s2, s3⟩ := r.own i d hd hi
  rw [hs] at s1
  cases s1
  obtain ⟨t1, t2, t3⟩ := s2
  have hl : i < ρ.length := (List.getElem?_eq_some_iff.mp hd).1
  have ow : Own K w H d a := ⟨t1, t2, t3⟩
  have hnb : ¬ Nb (L2.upd H a o a) := h.nt.nb
  refine ⟨⟨r.gd.len, fun b u e => ?_, fun n u e => ?_, r.gd.inj, r.gd.nofz, r.gd.tab.to rfl r.gd.tab.f fun b u e hu => ?_⟩, ⟨r.ext.le, r.ext.new, fun b u e => ?_, fun b hb => ?_, fun b hb e => ⟨(r.ext.fz b hb e).1, by rw [upd_ne (fun q => hb.nb (by rw [q]; exact s3))]; exact (r.ext.fz b hb e).2⟩⟩, r.kn, fun j e hj n => ?_, fun j e hj n => ?_, fun j k b hj hk ej ek => r.dis j k b hj hk ?_ ?_, by simpa using r.len, fun z hz hj hn => ?_, r.thk⟩
  · rw [upd_ne (fun q => by rw [q, t1] at e; cases e)]
    exact r.gd.sub b u e
  · have ne : w.phi n ≠ a := t2 n (by rw [r.gd.len]; exact (List.getElem?_eq_some_iff.mp e).1)
    exact (r.gd.sto n u e).mono (.refl w) fun z hz => by rw [upd_ne ne]; exact hz
  · rw [upd_ne]
    · exact e
    · rintro rfl
      rcases hu with ⟨ps, rfl⟩ | ⟨c, q, rfl⟩
      · exact ow.notbl e
      · exact ow.nocode e
  · rcases r.ext.keep b u e with z | z
    · exact .inl z
    · by_cases q : b = a
      · subst q
        rcases s3 with s3 | ⟨ps, s3⟩
        · rw [s3] at e; cases e
        · rw [s3] at e; cases e; exact .inl (.inr ⟨_, rfl⟩)
      · refine .inr ?_
        rw [upd_ne q]
        exact z
  · by_cases q : b = a
    · exact absurd (q ▸ hb) hnb
    · rw [upd_ne q] at hb; exact r.ext.there b hb
  · have q : i ≠ j := fun z => n (z ▸ hi)
    rw [List.getElem?_set_ne q] at hj
    exact r.val j e hj n
  · by_cases q : i = j
    · subst q
      rw [List.getElem?_set_self hl] at hj; cases hj
      exact ⟨a, hs, h, s3⟩
    · rw [List.getElem?_set_ne q] at hj
      obtain ⟨b, u1, u2, u3⟩ := r.own j e hj n
      have ne : b ≠ a := fun z => q (r.dis i j b hi n ⟨_, hd⟩ ⟨_, hj⟩ (by rw [z]; exact hs) u1)
      refine ⟨b, u1, ⟨u2.1, u2.2.1, ?_⟩, u3⟩
      obtain ⟨_, _, u4⟩ := u2
      cases e with
      | lst ds => obtain ⟨vs, e, r⟩ := u4; exact ⟨vs, by rw [upd_ne ne]; exact e, r⟩
      | dct ds => obtain ⟨vs, e, r⟩ := u4; exact ⟨vs, by rw [upd_ne ne]; exact e, r⟩
      | dtt ds => obtain ⟨vs, e, r⟩ := u4; exact ⟨vs, by rw [upd_ne ne]; exact e, r⟩
      | dno ds => exact (upd_ne ne).trans u4
      | _ => exact u4.elim
  · obtain ⟨z, ez⟩ := ej
    by_cases q : i = j
    · exact ⟨_, q ▸ hd⟩
    · rw [List.getElem?_set_ne q] at ez; exact ⟨z, ez⟩
  · obtain ⟨z, ez⟩ := ek
    by_cases q : i = k
    · exact ⟨_, q ▸ hd⟩
    · rw [List.getElem?_set_ne q] at ez; exact ⟨z, ez⟩
  · by_cases q : i = z.i
    · rw [← q, List.getElem?_set_self hl] at hn; cases hn
    · rw [List.getElem?_set_ne q] at hn
      obtain ⟨h1, h2⟩ := r.exc z hz hj hn
      refine ⟨h1, h2.keeps fun dd vs e => ?_⟩
      have hno : ∀ fs, H a ≠ some (.xd fs) := fun fs => Own.noxd (K := K) (w := w) (d := d) ⟨t1, t2, t3⟩
      have ne : dd ≠ a := fun e' => hno vs (by rw [← e']; exact e)
      rw [upd_ne ne]
      exact e
/-- an object of the store is changed -/
theorem Gd.put (g : Gd K w H S) {n : Nat} {o o' : SO} {u : HO} (hn : S[n]? = some o) (h : RepO K w (upd H (w.phi n) u) (w.phi n) o') : Gd K w (upd H (w.phi n) u) (S.set n o') := by
  have hl : n < S.length := (List.getElem?_eq_some_iff.mp hn).1
  have rn := g.sto n o hn
  refine ⟨by simpa using g.len, fun b v e => ?_, fun k v e => ?_, g.inj, g.nofz, g.tab.to rfl g.tab.f fun b v e hv => by
    rw [upd_ne]
    · exact e
    · rintro rfl
      rcases hv with ⟨ps, rfl⟩ | ⟨c, q, rfl⟩
      · exact rn.notbl e
      · exact rn.nocode e⟩
  · rw [upd_ne (fun q => by rw [q, g.nofz n (by rw [g.len]; exact hl)] at e; cases e)]
    exact g.sub b v e
  · by_cases q : n = k
    · subst q
      rw [List.getElem?_set_self hl] at e; cases e
      exact h
    · rw [List.getElem?_set_ne q] at e
      have hk : k < S.length := (List.getElem?_eq_some_iff.mp e).1
      have ne : w.phi k ≠ w.phi n := fun z => q (g.inj _ _ (by rw [g.len]; exact hk) (by rw [g.len]; exact hl) z).symm
      exact (g.sto k v e).mono (.refl w) fun z hz => by rw [upd_ne ne]; exact hz
theorem RepO.ntU {K : PySem.W.Frag} {w : Wit} {H : Hp} {a : Addr} {u : HO} {o : SO} (h : RepO K w (upd H a u) a o) : NT (some u) := by
  have e : upd H a u a = some u := upd_same
  cases o with
  | lst ds => obtain ⟨vs, q, _⟩ := h; rw [e] at q; exact ⟨_, q, fun _ _ z => by rcases z with z | z <;> cases z⟩
  | dct ds => obtain ⟨vs, q, _⟩ := h; rw [e] at q; exact ⟨_, q, fun _ _ z => by rcases z with z | z <;> cases z⟩
  | dtt ds => obtain ⟨vs, q, _⟩ := h; rw [e] at q; exact ⟨_, q, fun _ _ z => by rcases z with z | z <;> cases z⟩
  | ins c fs => obtain ⟨dx, vs, q, _⟩ := h; rw [e] at q; exact ⟨_, q, fun _ _ z => by rcases z with z | z <;> cases z⟩
theorem Ext.put (w : Wit) (H : Hp) {n : Nat} {u : HO} (hn : n < w.m) (ht : H (w.phi n) ≠ none) (hu : NT (some u)) : Ext w H w (upd H (w.phi n) u) where
  le := .refl w
  new := fun k h q => absurd q (Nat.not_lt.mpr h)
  keep := fun a o e => by
    by_cases q : a = w.phi n
    · exact .inl (.inl ⟨n, hn, q.symm⟩)
    · exact .inr (by rw [upd_ne q]; exact e)
  there := fun a h => by
    by_cases q : a = w.phi n
    · subst q; rw [upd_same] at h; exact absurd h hu.nb
    · rw [upd_ne q] at h; exact h
  fz := fun a h k => ⟨k, by
    by_cases q : a = w.phi n
    · rw [q, upd_same]; exact hu
    · rw [upd_ne q]; exact h⟩
end
/-- a new object, known to all -/
def Wit.new (w : Wit) (a : Addr) (o : HO) : Wit := { w with F := L2.upd w.F a o }
section
variable {K : PySem.W.Frag} {w : Wit} {H : Hp} {S : Sto} {a : Addr} {o : HO}
theorem Le.new (h : w.F a = none) : Le w (w.new a o) := ⟨fun b u e => by
  show L2.upd w.F a o b = some u
  rw [upd_ne (fun q => by rw [q, h] at e; cases e)]; exact e, fun _ _ => rfl, Nat.le_refl _, rfl⟩
theorem Gd.noneF (g : Gd K w H S) (h : H a = none) : w.F a = none := by
  cases e : w.F a with
  | none => rfl
  | some u => rw [g.sub a u e] at h; cases h
theorem Gd.nophi (g : Gd K w H S) (h : H a = none) : ∀ n, n < w.m → w.phi n ≠ a := fun n hn q => by
  rw [g.len] at hn
  have := (g.sto n _ (List.getElem?_eq_getElem hn)).there
  exact this (q ▸ h)
theorem Gd.new (g : Gd K w H S) (h : H a = none) (hnt : ∀ ps, o ≠ .tbl ps := by intro _ hnt; cases hnt) : Gd K (w.new a o) (upd H a o) S where
  len := g.len
  sub := fun b u e => by
    by_cases q : b = a
    · subst q
      rw [show (w.new b o).F b = some o from upd_same] at e; cases e
      exact upd_same
    · rw [show (w.new a o).F b = w.F b from upd_ne q] at e
      rw [upd_ne q]; exact g.sub b u e
  sto := fun n u e => (g.sto n u e).mono (Le.new (g.noneF h)) fun z hz => by
    show upd H a o (w.phi n) = some z
    rw [upd_ne (fun q => by rw [q, h] at hz; cases hz)]; exact hz
  inj := g.inj
  nofz := fun i hi => by
    show L2.upd w.F a o (w.phi i) = none
    rw [upd_ne (g.nophi h i hi)]; exact g.nofz i hi
  tab := g.tab.to rfl (fun b ps e => by
    have e : L2.upd w.F a o b = some (.tbl ps) := e
    by_cases q : b = a
    · subst q; rw [upd_same] at e; exact hnt ps (Option.some.inj e)
    · rw [upd_ne q] at e; exact g.tab.f b ps e) fun b u e _ => by rw [upd_ne (fun q => by rw [q, h] at e; cases e)]; exact e
theorem Ext.newF (g : Gd K w H S) (h : H a = none) : Ext w H (w.new a o) (upd H a o) where
  le := Le.new (g.noneF h)
  new := fun k h q => absurd q (Nat.not_lt.mpr h)
  keep := fun b u e => .inr (by rw [upd_ne (fun q => by rw [q, h] at e; cases e)]; exact e)
  there := fun b hb => by
    by_cases q : b = a
    · subst q; exact .inl h
    · rw [upd_ne q] at hb; exact hb
  fz := fun b hb e => by
    have ne : b ≠ a := fun q => hb.ne (by rw [q]; exact h)
    refine ⟨?_, by rw [upd_ne ne]; exact hb⟩
    show L2.upd w.F a o b = none
    rw [upd_ne ne]; exact e
/-- a new object, nobody's -/
theorem Gd.newO (g : Gd K w H S) (h : H a = none) : Gd K w (upd H a o) S where
  len := g.len
  sub := fun b u e => by
    rw [upd_ne (fun q => by rw [q, g.noneF h] at e; cases e)]; exact g.sub b u e
  sto := fun n u e => (g.sto n u e).mono (.refl w) fun z hz => by
    rw [upd_ne (fun q => by rw [q, h] at hz; cases hz)]; exact hz
  inj := g.inj
  nofz := g.nofz
  tab := g.tab.to rfl g.tab.f fun b u e _ => by rw [upd_ne (fun q => by rw [q, h] at e; cases e)]; exact e
theorem Ext.newO (w : Wit) (h : H a = none) : Ext w H w (upd H a o) where
  le := .refl w
  new := fun k h q => absurd q (Nat.not_lt.mpr h)
  keep := fun b u e => .inr (by rw [upd_ne (fun q => by rw [q, h] at e; cases e)]; exact e)
  there := fun b hb => by
    by_cases q : b = a
    · subst q; exact .inl h
    · rw [upd_ne q] at hb; exact hb
  fz := fun b hb e => ⟨e, by rw [upd_ne (fun q => hb.ne (by rw [q]; exact h))]; exact hb⟩
end
end DL

/-! the judgements of the data layer -/
namespace DL
open PySem PySem.Spec PyProof.Rows L2

/-- how a value is known: to all; seen; new and nobody's -/
inductive Kd where | e | b | f
def KP (K : PySem.W.Frag) (k : Kd) (H : Hp) (w' : Wit) (H' : Hp) (d : D) (v : V) : Prop := match k with
  | .e => Rep K w' d v
  | .b => Rep K w' d v ∨ ∃ a, v = .ref a ∧ Own K w' H' d a
  | .f => ∃ a, v = .ref a ∧ Nb (H a) ∧ Own K w' H' d a
theorem KP.b {K : PySem.W.Frag} {H : Hp} {w' : Wit} {H' : Hp} {d : D} {v : V} : ∀ {k : Kd}, KP K k H w' H' d v → KP K .b H w' H' d v
  | .e, h => .inl h
  | .b, h => h
  | .f, ⟨a, e, _, h⟩ => .inr ⟨a, e, h⟩
theorem KP.later {K : PySem.W.Frag} {w w1 w' : Wit} {H H1 H' : Hp} {d : D} {v : V} (x : Ext w H w1 H1) : ∀ {k : Kd}, KP K k H1 w' H' d v → KP K k H w' H' d v
  | .e, h => h
  | .b, h => h
  | .f, ⟨a, e, n, h⟩ => ⟨a, e, x.there a n, h⟩

/-- what is wished of exceptions; what an except suite has caught -/
structure WZ where
  wx : WX
  xc : Option XC
  rk : Kd
def WZ.no (W : WZ) : WZ := ⟨fun _ _ _ _ => False, W.xc, W.rk⟩
/-- what must hold behind an expression that comes to r -/
def Post (K : PySem.W.Frag) (k : Kd) (w : Wit) (H : Hp) (W : WZ) (σ : L2.St) (r : Res) (Q : VK) : Prop := match r with
  | .ok d S => ∀ v H' w', Ext w H w' H' → Gd K w' H' S → KP K k H w' H' d v → Q v H'
  | .exn x S => ∀ cls dx H' w', Ext w H w' H' → Gd K w' H' S → RepX K w' H' x cls dx → W.wx cls dx σ H'
  | .stuck => False
section
variable {K : PySem.W.Frag} {k : Kd} {w w1 : Wit} {H H1 : Hp} {W : WZ} {σ : L2.St} {r : Res} {Q Q' : VK}
theorem Post.later (x : Ext w H w1 H1) (p : Post K k w H W σ r Q) : Post K k w1 H1 W σ r Q := by
  cases r with
  | ok d S => exact fun v H' w' y g h => p v H' w' (x.trans y) g (h.later x)
  | exn e S => exact fun cls dx H' w' y g h => p cls dx H' w' (x.trans y) g h
  | stuck => exact p
theorem Post.imp (p : Post K k w H W σ r Q) (h : ∀ v H', Q v H' → Q' v H') : Post K k w H W σ r Q' := by
  cases r with
  | ok d S => exact fun v H' w' y g z => h _ _ (p v H' w' y g z)
  | exn e S => exact p
  | stuck => exact p
/-- new things may be known to all -/
theorem Post.fOfE (p : Post K .e w H W σ r Q) : Post K .f w H W σ r Q := by
  cases r with
  | ok d S =>
    rintro v H' w' y g ⟨a, rfl, n, o⟩
    exact p _ H' (w'.fix H' a) (y.fix o.1 n) (g.fix o.1 o.2.1 fun _ => o.notbl) o.rep
  | exn e S => exact p
  | stuck => exact p
/-- the first of two -/
theorem Post.bind {k1 : Kd} {f : D → Sto → Res} {Q1 : VK} (p : Post K k w H W σ (r.bind f) Q)
    (c : ∀ d S1 v H1 w1, Ext w H w1 H1 → Gd K w1 H1 S1 → KP K k1 H w1 H1 d v → Post K k w1 H1 W σ (f d S1) Q → Q1 v H1) : Post K k1 w H W σ r Q1 := by
  cases r with
  | ok d S => exact fun v H' w' y g z => c d S v H' w' y g z (p.later y)
  | exn e S => exact p
  | stuck => exact p
end

/-- the reading of an expression -/
def rd (K : PySem.W.Frag) (k : Kd) (W : WZ) (O : List Nat) (f : EF) : TE := fun σ H Q => ∃ (ent : Ent W.xc) (w : Wit) (ρ : DEnv) (S : Sto), R K ent O w H σ ρ S ∧ Post K k w H W σ (f ρ S) Q
structure DE (k : Kd) (X : Cx) (W : WZ) (O : List Nat) (e : Expr) (f : EF) : Prop where
  pe : PE X e (rd X.K k W O f)
theorem _root_.L2.PE.imp {X : Cx} {e : Expr} {t t' : TE} (h : PE X e t) (i : ∀ σ H Q, t' σ H Q → t σ H Q) : PE X e t' := ⟨fun pins s σ H Q I q => h.run pins s σ H Q I (i σ H Q q)⟩
theorem _root_.L2.PT.imp {X : Cx} {e : Expr} {t t' : TT} (h : PT X e t) (i : ∀ σ H Q, t' σ H Q → t σ H Q) : PT X e t' := ⟨fun pins s σ H Q I q => h.run pins s σ H Q I (i σ H Q q)⟩
theorem _root_.L2.PW.imp {X : Cx} {e : Expr} {t t' : TT} (h : PW X e t) (i : ∀ σ H Q, t' σ H Q → t σ H Q) : PW X e t' := ⟨fun wh pins s σ H Q I q => h.run wh pins s σ H Q I (i σ H Q q)⟩
theorem _root_.L2.PA.imp {X : Cx} {e : List Expr} {t t' : TA} (h : PA X e t) (i : ∀ σ H Q, t' σ H Q → t σ H Q) : PA X e t' := ⟨fun pos pins s σ H Q I q => h.run pos pins s σ H Q I (i σ H Q q)⟩
theorem _root_.L2.PS.imp {X : Cx} {e : Stmt} {t t' : TS} (h : PS X e t) (i : ∀ D σ H, t' D σ H → t D σ H) : PS X e t' := ⟨fun pins s σ H D I q => h.run pins s σ H D I (i D σ H q)⟩
theorem _root_.L2.PSs.imp {X : Cx} {e : List Stmt} {t t' : TS} (h : PSs X e t) (i : ∀ D σ H, t' D σ H → t D σ H) : PSs X e t' := ⟨fun pins s σ H D I q => h.run pins s σ H D I (i D σ H q)⟩
theorem _root_.L2.PI.imp {X : Cx} {tg e : Expr} {t t' : TI} (h : PI X tg e t) (i : ∀ σ H Q, t' σ H Q → t σ H Q) : PI X tg e t' := ⟨fun pins s σ H Q I q => h.run pins s σ H Q I (i σ H Q q)⟩
/-- what the invariant knows of sizes -/
def Sz (K : PySem.W.Frag) (H : Hp) : Prop := ∀ a vs, SqL K H a vs ∨ SqT K H a vs → vs.length ≤ sizeLine
theorem _root_.L2.Inv.szs {X : Cx} {pins : List (Addr × Obj)} {σ : L2.St} {H : Hp} {s : Shared} (I : Inv X pins σ H s) : Sz X.K H := fun a vs h => by
  rcases h with h | h
  · obtain ⟨_, _, _, z⟩ := I.list h; exact z
  · obtain ⟨_, _, _, z⟩ := I.tuple h; exact z
theorem _root_.L2.PE.sz {X : Cx} {e : Expr} {t : TE} (h : PE X e t) : PE X e (fun σ H Q => t σ H fun v H' => Sz X.K H' → Q v H') :=
  ⟨fun pins s σ H Q I q => thn (h.run pins s σ H _ I q) fun u s' ⟨v, H', I', r, z⟩ => ⟨v, H', I', r, z I'.szs⟩⟩
section
variable {X : Cx} {W : WZ} {O : List Nat} {e : Expr} {f : EF} {k : Kd}
theorem DE.toE (h : DE .f X W O e f) : DE .e X W O e f := ⟨h.pe.imp fun σ H Q ⟨ent, w, ρ, S, r, p⟩ => ⟨ent, w, ρ, S, r, p.fOfE⟩⟩
end

/-! ### names, constants -/
def eVar (i : Nat) : EF := fun ρ S => match ρ[i]? with
  | some (some d) => .ok d S
  | _ => .stuck
def eC (d : D) : EF := fun _ S => .ok d S
section
variable {X : Cx} {W : WZ} {O : List Nat}
theorem dv (i : Nat) {x : Str} {pos : Pos} (hO : i ∉ O := by decide) (hN : X.N[i]? = some x := by rfl) (hv : Vis X.env.scope x := by first | exact Or.inl rfl | exact Or.inr (Or.inl rfl) | exact Or.inr (Or.inr rfl)) (hd : (x == ("__debug__" : Str)) = false := by decide)
    (hcd : (x == ("__classdict__" : Str)) = false := by decide) : DE .e X W O (.Name x pos) (eVar i) := by
  refine ⟨(pe_var hN hv hd hcd).imp fun σ H Q ⟨ent, w, ρ, S, r, p⟩ => ?_⟩
  unfold eVar at p
  cases h : ρ[i]? with
  | none => rw [h] at p; exact p.elim
  | some o => cases o with
    | none => rw [h] at p; exact p.elim
    | some d =>
      rw [h] at p
      obtain ⟨v, e, q⟩ := r.val i d h hO
      exact ⟨v, e, p v H w (.refl _ _) r.gd q⟩
/-- seen only: it may be the def's own -/
theorem dvb (i : Nat) {x : Str} {pos : Pos} (hN : X.N[i]? = some x := by rfl) (hv : Vis X.env.scope x := by first | exact Or.inl rfl | exact Or.inr (Or.inl rfl) | exact Or.inr (Or.inr rfl)) (hd : (x == ("__debug__" : Str)) = false := by decide)
    (hcd : (x == ("__classdict__" : Str)) = false := by decide) : DE .b X W O (.Name x pos) (eVar i) := by
  refine ⟨(pe_var hN hv hd hcd).imp fun σ H Q ⟨ent, w, ρ, S, r, p⟩ => ?_⟩
  unfold eVar at p
  cases h : ρ[i]? with
  | none => rw [h] at p; exact p.elim
  | some o => cases o with
    | none => rw [h] at p; exact p.elim
    | some d =>
      rw [h] at p
      by_cases hO : i ∈ O
      · obtain ⟨a, e, q, _⟩ := r.own i d h hO
        exact ⟨_, e, p _ H w (.refl _ _) r.gd (.inr ⟨a, rfl, q⟩)⟩
      · obtain ⟨v, e, q⟩ := r.val i d h hO
        exact ⟨v, e, p v H w (.refl _ _) r.gd (.inl q)⟩
theorem rd_const {K : PySem.W.Frag} {d : D} {v : V} (h : ∀ w, Rep K w d v) : ∀ σ H Q, rd K .e W O (eC d) σ H Q → tC v σ H Q := fun σ H Q ⟨ent, w, ρ, S, r, p⟩ => p v H w (.refl _ _) r.gd (h w)
theorem de_int {i j pos} : DE .e X W O (.Constant (.int i) j pos) (eC (.int i)) := ⟨pe_int.imp (rd_const fun _ => .int i)⟩
theorem de_bl {i j pos} : DE .e X W O (.Constant (.bool i) j pos) (eC (.bl i)) := ⟨pe_bl.imp (rd_const fun _ => .bl i)⟩
theorem de_non {j pos} : DE .e X W O (.Constant .none j pos) (eC .non) := ⟨pe_non.imp (rd_const fun _ => .non)⟩
theorem de_str {i j pos} : DE .e X W O (.Constant (.str i) j pos) (eC (.str i)) := ⟨pe_str.imp (rd_const fun _ => .str i)⟩
/-- a module's constant -/
theorem de_glob {x : Str} {v : V} {u : Value} {d : D} {pos : Pos} (hm : X.mg x = some u) (r : RelV v u) (h : ∀ w, Rep X.K w d v) (hg : Gl X x := by rfl) (hd : (x == ("__debug__" : Str)) = false := by decide) : DE .e X W O (.Name x pos) (eC d) :=
  ⟨(pe_glob hg hm r hd).imp (rd_const h)⟩
end

/-! ### things seen -/
def deref (S : Sto) (d : D) : D := match d with
  | .obj n => (match S[n]? with
    | some (.lst ds) => .lst ds
    | some (.dct kvs) => .dct kvs
    | some (.dtt kvs) => .dtt kvs
    | some (.ins c fs) => .ins c fs
    | none => .obj n)
  | d => d
@[simp] theorem deref_non (S : Sto) : deref S .non = .non := rfl
@[simp] theorem deref_bl (S : Sto) (b : Bool) : deref S (.bl b) = .bl b := rfl
@[simp] theorem deref_int (S : Sto) (b : Int) : deref S (.int b) = .int b := rfl
@[simp] theorem deref_str (S : Sto) (b : Str) : deref S (.str b) = .str b := rfl
@[simp] theorem deref_tup (S : Sto) (b : List D) : deref S (.tup b) = .tup b := rfl
@[simp] theorem deref_ctp (S : Sto) (b : List D) : deref S (.ctp b) = .ctp b := rfl
@[simp] theorem deref_lst (S : Sto) (b : List D) : deref S (.lst b) = .lst b := rfl
@[simp] theorem deref_dct (S : Sto) (b : List (D × D)) : deref S (.dct b) = .dct b := rfl
@[simp] theorem deref_dtt (S : Sto) (b : List (D × D)) : deref S (.dtt b) = .dtt b := rfl
@[simp] theorem deref_ins (S : Sto) (c : Str) (b : List (Str × D)) : deref S (.ins c b) = .ins c b := rfl
/-- what is seen at v: the top of it as it stands in the heap -/
inductive Vw (K : PySem.W.Frag) (w : Wit) (H : Hp) : D → V → Prop
  | non : Vw K w H .non .non
  | bl (b : Bool) : Vw K w H (.bl b) (.bl b)
  | int (i : Int) : Vw K w H (.int i) (.int i)
  | str (x : Str) : Vw K w H (.str x) (.str x)
  | tup {a : Addr} {vs : List V} {ds : List D} (h : w.F a = some (.tup vs)) (r : Reps K w ds vs) : Vw K w H (.tup ds) (.ref a)
  | ctp {a : Addr} {vs : List V} {ds : List D} (h : SqT K (fun _ => none) a vs) (r : Reps K w ds vs) : Vw K w H (.ctp ds) (.ref a)
  | lst {a : Addr} {vs : List V} {ds : List D} (h : SqL K H a vs) (r : Reps K w ds vs) : Vw K w H (.lst ds) (.ref a)
  | dK {a : Addr} {vs : List (Key × V)} {ds : List (D × D)} (h : Rd H a (.dK vs)) (r : RepK K w ds vs) : Vw K w H (.dct ds) (.ref a)
  | dT {a : Addr} {vs : List (List Key × V)} {ds : List (D × D)} (h : H a = some (.dT vs)) (r : RepT K w ds vs) : Vw K w H (.dtt ds) (.ref a)
  | ins {a dx : Addr} {c : Str} {fs : List (Str × D)} {vs : List (Str × V)} (h : H a = some (.ins (He.ga K c) dx vs)) (r : RepF K w fs vs) : Vw K w H (.ins c fs) (.ref a)
  | obj {n : Nat} (h : n < w.m) : Vw K w H (.obj n) (.ref (w.phi n))
  | cls (c : Str) : Vw K w H (.cls c) (.ref (He.ga K c))
  | dN {a : Addr} {ks : List (Option Int)} (h : H a = some (DNo a ks)) : Vw K w H (.dno ks) (.ref a)
theorem KP.vw {K : PySem.W.Frag} {w : Wit} {H0 H : Hp} {S : Sto} {d : D} {v : V} {k : Kd} (g : Gd K w H S) (h0 : KP K k H0 w H d v) : Vw K w H (deref S d) v := by
  rcases (h0.b : KP K .b H0 w H d v) with h | ⟨a, rfl, h⟩
  · cases h with
    | non => exact .non
    | bl b => exact .bl b
    | int b => exact .int b
    | str b => exact .str b
    | tup h r => exact .tup h r
    | ctp h r => exact .ctp h r
    | lst h r => exact .lst (SqL.monoF g.sub h) r
    | dK h r => exact .dK (h.imp (g.sub _ _) fun ⟨o, e⟩ => ⟨o, g.sub _ _ e⟩) r
    | dT h r => exact .dT (g.sub _ _ h) r
    | ins h r => exact .ins (g.sub _ _ h) r
    | @obj n h =>
      unfold deref
      simp only
      cases e : S[n]? with
      | none => exact .obj h
      | some o =>
        have q := g.sto n o e
        cases o with
        | lst ds => obtain ⟨vs, e, r⟩ := q; exact .lst (.inl (.inl e)) r
        | dct ds => obtain ⟨vs, e, r⟩ := q; exact .dK (.inl e) r
        | dtt ds => obtain ⟨vs, e, r⟩ := q; exact .dT e r
        | ins c fs => obtain ⟨dx, vs, e, r⟩ := q; exact .ins e r
    | cls c => exact .cls c
    | dN h => exact .dN (g.sub _ _ h)
  · obtain ⟨_, _, h⟩ := h
    cases d with
    | lst ds => obtain ⟨vs, e, r⟩ := h; exact .lst (.inl (.inl e)) r
    | dct ds => obtain ⟨vs, e, r⟩ := h; exact .dK (.inl e) r
    | dtt ds => obtain ⟨vs, e, r⟩ := h; exact .dT e r
    | dno ds => exact .dN h
    | _ => exact h.elim
theorem KP.ext {K : PySem.W.Frag} {w w' : Wit} {H0 H1 H H' : Hp} {d : D} {v : V} {k : Kd} (h0 : KP K k H0 w H d v) (x : Ext w H w' H') : KP K .b H1 w' H' d v := by
  rcases (h0.b : KP K .b H0 w H d v) with h | ⟨a, rfl, h⟩
  · exact .inl (h.mono x.le)
  · exact .inr ⟨a, rfl, h.ext x⟩

/-! ### operators on one, two things; calls -/
/-- g of one thing -/
def r1 (K : PySem.W.Frag) (k : Kd) (g : D → Option D) : V → Hp → VK → Prop := fun x H Q => ∃ w S d1 d, Gd K w H S ∧ KP K .b H w H d1 x ∧ g (deref S d1) = some d ∧ ∀ v H' w', Ext w H w' H' → Gd K w' H' S → KP K k H w' H' d v → Q v H'
def r2 (K : PySem.W.Frag) (k : Kd) (g : D → D → Option D) : R2 := fun x y H Q => ∃ w S d1 d2 d, Gd K w H S ∧ KP K .b H w H d1 x ∧ KP K .b H w H d2 y ∧ g (deref S d1) (deref S d2) = some d ∧ ∀ v H' w', Ext w H w' H' → Gd K w' H' S → KP K k H w' H' d v → Q v H'
inductive KPs (K : PySem.W.Frag) (w : Wit) (H : Hp) : List D → List V → Prop
  | nil : KPs K w H [] []
  | cons {d : D} {v : V} {ds : List D} {vs : List V} (h : KP K .b H w H d v) (t : KPs K w H ds vs) : KPs K w H (d :: ds) (v :: vs)
def rN (K : PySem.W.Frag) (k : Kd) (g : List D → Option D) : List V → Hp → VK → Prop := fun xs H Q => ∃ w S ds d, Gd K w H S ∧ KPs K w H ds xs ∧ g (ds.map (deref S)) = some d ∧ ∀ v H' w', Ext w H w' H' → Gd K w' H' S → KP K k H w' H' d v → Q v H'

def e1 (g : D → Option D) (fa : EF) : EF := fun ρ S => (fa ρ S).bind fun x S1 => .ofOpt (g (deref S1 x)) S1
def e2 (g : D → D → Option D) (fa fb : EF) : EF := fun ρ S => (fa ρ S).bind fun x S1 => (fb ρ S1).bind fun y S2 => .ofOpt (g (deref S2 x) (deref S2 y)) S2
section
variable {X : Cx} {W : WZ} {O : List Nat} {a b : Expr} {fa fb : EF} {k ka kb : Kd}
theorem tUn_of {K : PySem.W.Frag} {g : D → Option D} : ∀ σ H Q, rd K k W O (e1 g fa) σ H Q → tUn (r1 K k g) (rd K ka W O fa) σ H Q := by
  rintro σ H Q ⟨ent, w, ρ, S, r, p⟩
  refine ⟨ent, w, ρ, S, r, p.bind fun d S1 v H1 w1 x g1 z p1 => ?_⟩
  cases e : g (deref S1 d) with
  | none => rw [e] at p1; exact p1.elim
  | some d' => rw [e] at p1; exact ⟨w1, S1, d, d', g1, z.ext (.refl _ _), e, p1⟩
theorem tOp_of {K : PySem.W.Frag} {g : D → D → Option D} : ∀ σ H Q, rd K k W O (e2 g fa fb) σ H Q → tOp (r2 K k g) (rd K ka W O fa) (rd K kb W O fb) σ H Q := by
  rintro σ H Q ⟨ent, w, ρ, S, r, p⟩
  refine ⟨ent, w, ρ, S, r, p.bind fun d S1 v H1 w1 x g1 z p1 => ?_⟩
  refine ⟨ent, w1, ρ, S1, r.later x g1, p1.bind fun d2 S2 v2 H2 w2 x2 g2 z2 p2 => ?_⟩
  cases e : g (deref S2 d) (deref S2 d2) with
  | none => rw [e] at p2; exact p2.elim
  | some d' => rw [e] at p2; exact ⟨w2, S2, d, d2, d', g2, z.ext x2, z2.ext (.refl _ _), e, p2⟩
theorem de_bin {op : Operator} {g : D → D → Option D} {pos : Pos} (ho : OpR X (binaryOp op) (r2 X.K k g)) (ha : DE ka X W O a fa) (hb : DE kb X W O b fb) : DE k X W O (.BinOp a op b pos) (e2 g fa fb) := ⟨(pe_op ho ha.pe hb.pe).imp tOp_of⟩
theorem de_un {op : UnaryOp} {g : D → Option D} {pos : Pos} (ho : UnR X (unaryOp op) (r1 X.K k g)) (ha : DE ka X W O a fa) : DE k X W O (.UnaryOp op a pos) (e1 g fa) := ⟨(pe_un ho ha.pe).imp tUn_of⟩
theorem de_cmp {op : CmpOp} {g : D → D → Option D} {pos : Pos} (ho : OpR X (compareOp op) (r2 X.K .e g)) (ha : DE ka X W O a fa) (hb : DE kb X W O b fb) (hm : behindInMarks op b = false := by first | exact nomark _ | rfl) : DE .e X W O (.Compare a [op] [b] pos) (e2 g fa fb) := ⟨(pe_cmpR ho ha.pe hb.pe hm).imp tOp_of⟩
end

/-! ### argument lists -/
inductive Ress where
  | ok (ds : List D) (S : Sto) | exn (x : D) (S : Sto) | stuck
def Ress.bind (r : Ress) (f : List D → Sto → Res) : Res := match r with
  | .ok d S => f d S
  | .exn x S => .exn x S
  | .stuck => .stuck
abbrev AF := DEnv → Sto → Ress
def aNil : AF := fun _ S => .ok [] S
def aCons (f : EF) (g : AF) : AF := fun ρ S => match f ρ S with
  | .ok d S1 => (match g ρ S1 with
    | .ok ds S2 => .ok (d :: ds) S2
    | .exn x S2 => .exn x S2
    | .stuck => .stuck)
  | .exn x S1 => .exn x S1
  | .stuck => .stuck
/-- known to all, one by one -/
def PostA (K : PySem.W.Frag) (P : Wit → Hp → List D → List V → Prop) (w : Wit) (H : Hp) (W : WZ) (σ : L2.St) (r : Ress) (Q : List V → Hp → Prop) : Prop := match r with
  | .ok ds S => ∀ vs H' w', Ext w H w' H' → Gd K w' H' S → P w' H' ds vs → Q vs H'
  | .exn x S => ∀ cls dx H' w', Ext w H w' H' → Gd K w' H' S → RepX K w' H' x cls dx → W.wx cls dx σ H'
  | .stuck => False
theorem PostA.later {K : PySem.W.Frag} {P : Wit → Hp → List D → List V → Prop} {w w1 : Wit} {H H1 : Hp} {W : WZ} {σ : L2.St} {r : Ress} {Q : List V → Hp → Prop} (x : Ext w H w1 H1) (p : PostA K P w H W σ r Q) : PostA K P w1 H1 W σ r Q := by
  cases r with
  | ok d S => exact fun v H' w' y g h => p v H' w' (x.trans y) g h
  | exn e S => exact fun cls dx H' w' y g h => p cls dx H' w' (x.trans y) g h
  | stuck => exact p
abbrev PRep (K : PySem.W.Frag) : Wit → Hp → List D → List V → Prop := fun w _ ds vs => Reps K w ds vs
abbrev PKP (K : PySem.W.Frag) : Wit → Hp → List D → List V → Prop := fun w H ds vs => KPs K w H ds vs
def rdA (K : PySem.W.Frag) (P : Wit → Hp → List D → List V → Prop) (W : WZ) (O : List Nat) (f : AF) : TA := fun σ H Q => ∃ (ent : Ent W.xc) (w : Wit) (ρ : DEnv) (S : Sto), R K ent O w H σ ρ S ∧ PostA K P w H W σ (f ρ S) Q
/-- arguments known to all -/
structure DA (X : Cx) (W : WZ) (O : List Nat) (es : List Expr) (f : AF) : Prop where
  pa : PA X es (rdA X.K (PRep X.K) W O f)
/-- arguments seen -/
structure DAb (X : Cx) (W : WZ) (O : List Nat) (es : List Expr) (f : AF) : Prop where
  pa : PA X es (rdA X.K (PKP X.K) W O f)
section
variable {X : Cx} {W : WZ} {O : List Nat} {e : Expr} {es : List Expr} {f : EF} {g : AF} {k : Kd}
theorem da_nil : DA X W O [] aNil := ⟨pa_nil.imp fun σ H Q ⟨ent, w, ρ, S, r, p⟩ => p [] H w (.refl _ _) r.gd .nil⟩
theorem dab_nil : DAb X W O [] aNil := ⟨pa_nil.imp fun σ H Q ⟨ent, w, ρ, S, r, p⟩ => p [] H w (.refl _ _) r.gd .nil⟩
theorem KPs.ext {K : PySem.W.Frag} {w w' : Wit} {H H' : Hp} {ds : List D} {vs : List V} (h : KPs K w H ds vs) (x : Ext w H w' H') : KPs K w' H' ds vs := by
  induction h with
  | nil => exact .nil
  | cons h t ih => exact .cons (h.ext x) ih
theorem aCons_post {P1 : D → V → Wit → Hp → Prop} {P : Wit → Hp → List D → List V → Prop} (hP : ∀ d v w1 H1 w2 H2 ds vs, Ext w1 H1 w2 H2 → P1 d v w1 H1 → P w2 H2 ds vs → P w2 H2 (d :: ds) (v :: vs))
    (hk : ∀ d v H0 w1 H1, KP X.K k H0 w1 H1 d v → P1 d v w1 H1) :
    ∀ σ H Q, rdA X.K P W O (aCons f g) σ H Q → tCons (rd X.K k W O f) (rdA X.K P W O g) σ H Q := by
  rintro σ H Q ⟨ent, w, ρ, S, r, p⟩
  refine ⟨ent, w, ρ, S, r, ?_⟩
  unfold aCons at p
  cases e1 : f ρ S with
  | stuck => rw [e1] at p; exact p
  | exn x S1 => rw [e1] at p; exact p
  | ok d S1 =>
    rw [e1] at p
    refine fun v H1 w1 x1 g1 z1 => ⟨ent, w1, ρ, S1, r.later x1 g1, ?_⟩
    dsimp only at p
    cases e2 : g ρ S1 with
    | stuck => rw [e2] at p; exact p
    | exn x S2 => rw [e2] at p; exact fun cls dx H' w' y g' h => p cls dx H' w' (x1.trans y) g' h
    | ok ds S2 =>
      rw [e2] at p
      exact fun vs H2 w2 x2 g2 z2 => p (v :: vs) H2 w2 (x1.trans x2) g2 (hP d v w1 H1 w2 H2 ds vs x2 (hk d v _ w1 H1 z1) z2)
theorem da_cons (ha : DE .e X W O e f) (hr : DA X W O es g) (hs : starEach (e :: es) X.env = (false, eval e X.env) :: starEach es X.env := by rfl) : DA X W O (e :: es) (aCons f g) :=
  ⟨(pa_cons ha.pe hr.pa hs).imp (aCons_post (P1 := fun d v w H => Rep X.K w d v) (fun d v w1 H1 w2 H2 ds vs x h t => Reps.cons (h.mono x.le) t) fun d v H0 w1 H1 z => z)⟩
theorem dab_cons (ha : DE k X W O e f) (hr : DAb X W O es g) (hs : starEach (e :: es) X.env = (false, eval e X.env) :: starEach es X.env := by rfl) : DAb X W O (e :: es) (aCons f g) :=
  ⟨(pa_cons ha.pe hr.pa hs).imp (aCons_post (P1 := fun d v w H => KP X.K .b H w H d v) (fun d v w1 H1 w2 H2 ds vs x h t => KPs.cons (h.ext x) t) fun d v H0 w1 H1 z => z.ext (.refl _ _))⟩
end
def eN (g : List D → Option D) (f : AF) : EF := fun ρ S => (f ρ S).bind fun ds S1 => .ofOpt (g (ds.map (deref S1))) S1
section
variable {X : Cx} {W : WZ} {O : List Nat} {e : Expr} {es : List Expr} {f : EF} {fa : AF} {k : Kd}
theorem tCB_of {K : PySem.W.Frag} {g : List D → Option D} : ∀ σ H Q, rd K k W O (eN g fa) σ H Q → tCB (rN K k g) (rdA K (PKP K) W O fa) σ H Q := by
  rintro σ H Q ⟨ent, w, ρ, S, r, p⟩
  refine ⟨ent, w, ρ, S, r, ?_⟩
  unfold eN at p
  cases e1 : fa ρ S with
  | stuck => rw [e1] at p; exact p
  | exn x S1 => rw [e1] at p; exact p
  | ok ds S1 =>
    rw [e1] at p
    refine fun vs H1 w1 x1 g1 z1 => ?_
    have p : Post K k w H W σ (.ofOpt (g (ds.map (deref S1))) S1) Q := p
    cases e2 : g (ds.map (deref S1)) with
    | none => rw [e2] at p; exact p.elim
    | some d => rw [e2] at p; exact ⟨w1, S1, ds, d, g1, z1, e2, Post.later (r := .ok d S1) x1 p⟩
theorem de_callB {id : String} {g : List D → Option D} {x : Str} {p pos : Pos} (hc : CallR X (.builtin id) (rN X.K k g)) (hv : bootBuiltins x = some (.builtin id)) (hm : X.mg x = none) (ha : DAb X W O (e :: es) fa) (hg : Gl X x := by rfl) (hn : x ≠ "__name__" := by decide) (hdb : (x == ("__debug__" : Str)) = false := by decide)
    (hs : starEach (e :: es) X.env = (false, eval e X.env) :: starEach es X.env := by rfl) (hpl : (backTo pos (starEach es X.env)).any (·.1) = false := by rfl) : DE k X W O (.Call (.Name x p) (e :: es) [] pos) (eN g fa) := ⟨(pe_callB hc hg hm hv ha.pa hn hdb hs hpl).imp tCB_of⟩
theorem de_callTy {T : String} {g : List D → Option D} {x : Str} {p pos : Pos} (hc : CallR X (.type T) (rN X.K k g)) (hv : bootBuiltins x = some (.type T)) (hm : X.mg x = none) (ha : DAb X W O (e :: es) fa) (hg : Gl X x := by rfl) (hn : x ≠ "__name__" := by decide) (hdb : (x == ("__debug__" : Str)) = false := by decide)
    (hs : starEach (e :: es) X.env = (false, eval e X.env) :: starEach es X.env := by rfl) (hpl : (backTo pos (starEach es X.env)).any (·.1) = false := by rfl) : DE k X W O (.Call (.Name x p) (e :: es) [] pos) (eN g fa) := ⟨(pe_callTy hc hg hm hv ha.pa hn hdb hs hpl).imp tCB_of⟩
end
end DL

/-! tests, statements, loops, comprehensions, defs -/
namespace DL
open PySem PySem.Spec PyProof.Rows L2

/-! ### tests -/
def PostT (K : PySem.W.Frag) (w : Wit) (H : Hp) (W : WZ) (σ : L2.St) (r : Res) (Q : Bool → Hp → Prop) : Prop := match r with
  | .ok d S => ∃ b, d = .bl b ∧ ∀ H' w', Ext w H w' H' → Gd K w' H' S → Q b H'
  | .exn x S => ∀ cls dx H' w', Ext w H w' H' → Gd K w' H' S → RepX K w' H' x cls dx → W.wx cls dx σ H'
  | .stuck => False
section
variable {K : PySem.W.Frag} {k : Kd} {w w1 : Wit} {H H1 : Hp} {W : WZ} {σ : L2.St} {r : Res} {Q : Bool → Hp → Prop}
theorem PostT.later (x : Ext w H w1 H1) (p : PostT K w H W σ r Q) : PostT K w1 H1 W σ r Q := by
  cases r with
  | ok d S => obtain ⟨b, e, p⟩ := p; exact ⟨b, e, fun H' w' y g => p H' w' (x.trans y) g⟩
  | exn e S => exact fun cls dx H' w' y g h => p cls dx H' w' (x.trans y) g h
  | stuck => exact p
theorem KP.bool {H' : Hp} {w' : Wit} {b : Bool} {v : V} (h : KP K k H w' H' (.bl b) v) : v = .bl b := by
  rcases (h.b : KP K .b H w' H' (.bl b) v) with h | ⟨a, _, h⟩
  · cases h; rfl
  · exact h.2.2.elim
theorem PostT.val (p : PostT K w H W σ r Q) : Post K k w H W σ r (fun v H' => ∃ b, v = .bl b ∧ Q b H') := by
  cases r with
  | ok d S => obtain ⟨b, rfl, p⟩ := p; exact fun v H' w' y g z => ⟨b, z.bool, p H' w' y g⟩
  | exn e S => exact p
  | stuck => exact p
end
def rdT (K : PySem.W.Frag) (W : WZ) (O : List Nat) (f : EF) : TT := fun σ H Q => ∃ (ent : Ent W.xc) (w : Wit) (ρ : DEnv) (S : Sto), R K ent O w H σ ρ S ∧ PostT K w H W σ (f ρ S) Q
structure DT (X : Cx) (W : WZ) (O : List Nat) (e : Expr) (f : EF) : Prop where
  pt : PT X e (rdT X.K W O f)
structure DW (X : Cx) (W : WZ) (O : List Nat) (e : Expr) (f : EF) : Prop where
  pw : PW X e (rdT X.K W O f)
theorem rdT_val {K : PySem.W.Frag} {W : WZ} {O : List Nat} {f : EF} {k : Kd} : ∀ σ H Q, rdT K W O f σ H Q → rd K k W O f σ H (fun v H' => ∃ b, v = .bl b ∧ Q b H') :=
  fun σ H Q ⟨ent, w, ρ, S, r, p⟩ => ⟨ent, w, ρ, S, r, p.val⟩

def eAnd (fa fb : EF) : EF := fun ρ S => (fa ρ S).bind fun x S1 => match x with
  | .bl true => fb ρ S1
  | .bl false => .ok (.bl false) S1
  | _ => .stuck
def eOr (fa fb : EF) : EF := fun ρ S => (fa ρ S).bind fun x S1 => match x with
  | .bl true => .ok (.bl true) S1
  | .bl false => fb ρ S1
  | _ => .stuck
def notF : D → Option D
  | .bl b => some (.bl !b)
  | _ => none
def eNot (fa : EF) : EF := fun ρ S => (fa ρ S).bind fun x S1 => .ofOpt (notF x) S1
def eIf (fc fa fb : EF) : EF := fun ρ S => (fc ρ S).bind fun x S1 => match x with
  | .bl true => fa ρ S1
  | .bl false => fb ρ S1
  | _ => .stuck
theorem PostT.bind {K : PySem.W.Frag} {w : Wit} {H : Hp} {W : WZ} {σ : L2.St} {r : Res} {f : D → Sto → Res} {Q : Bool → Hp → Prop} {Q1 : Bool → Hp → Prop} (p : PostT K w H W σ (r.bind f) Q)
    (hs : ∀ d S, f d S ≠ .stuck → ∃ b, d = .bl b) (c : ∀ b S1 H1 w1, Ext w H w1 H1 → Gd K w1 H1 S1 → PostT K w1 H1 W σ (f (.bl b) S1) Q → Q1 b H1) : PostT K w H W σ r Q1 := by
  cases r with
  | ok d S =>
    have h : f d S ≠ .stuck := fun q => by
      have p' : PostT K w H W σ (f d S) Q := p
      rw [q] at p'; exact p'
    obtain ⟨b, rfl⟩ := hs d S h
    exact ⟨b, rfl, fun H' w' y g => c b S H' w' y g (PostT.later y p)⟩
  | exn e S => exact p
  | stuck => exact p
theorem Post.bindT {K : PySem.W.Frag} {k : Kd} {w : Wit} {H : Hp} {W : WZ} {σ : L2.St} {r : Res} {f : D → Sto → Res} {Q : VK} {Q1 : Bool → Hp → Prop} (p : Post K k w H W σ (r.bind f) Q)
    (hs : ∀ d S, f d S ≠ .stuck → ∃ b, d = .bl b) (c : ∀ b S1 H1 w1, Ext w H w1 H1 → Gd K w1 H1 S1 → Post K k w1 H1 W σ (f (.bl b) S1) Q → Q1 b H1) : PostT K w H W σ r Q1 := by
  cases r with
  | ok d S =>
    have h : f d S ≠ .stuck := fun q => by
      have p' : Post K k w H W σ (f d S) Q := p
      rw [q] at p'; exact p'
    obtain ⟨b, rfl⟩ := hs d S h
    exact ⟨b, rfl, fun H' w' y g => c b S H' w' y g (Post.later y p)⟩
  | exn e S => exact p
  | stuck => exact p
section
variable {X : Cx} {W : WZ} {O : List Nat} {a b : Expr} {rest : List Expr} {fa fb fc : EF} {k ka kb : Kd} {pos : Pos}
/-- a comparison as a test -/
theorem dt_cmp {op : CmpOp} {g : D → D → Option D} (ho : OpR X (compareOp op) (r2 X.K .e g)) (ha : DE ka X W O a fa) (hb : DE kb X W O b fb) (hm : behindInMarks op b = false := by first | exact nomark _ | rfl) : DT X W O (.Compare a [op] [b] pos) (e2 g fa fb) :=
  ⟨(pt_cmpR ho ha.pe hb.pe hm).imp fun σ H Q h => tOp_of (k := .e) σ H _ (rdT_val (k := .e) σ H Q h)⟩
/-- any expression that comes to a bool -/
theorem dt_val (ha : DE k X W O a fa) (he : ∀ whole, isTrue a X.env whole = (do let v ← whole; standAt a.pos; holding [v] (truthy v)) := by intro _; rfl) : DT X W O a fa :=
  ⟨(pt_val ha.pe he).imp fun σ H Q h => rdT_val (k := k) σ H Q h⟩
theorem dt_bool (h : DW X W O a fa) : DT X W O a fa := ⟨h.pw.pt⟩
theorem dw_and1 (ha : DT X W O a fa) : DW X W O (.BoolOp .And [a] pos) fa := ⟨pw_and1 ha.pt⟩
theorem dw_or1 (ha : DT X W O a fa) : DW X W O (.BoolOp .Or [a] pos) fa := ⟨pw_or1 ha.pt⟩
theorem and_bool {fb : EF} {ρ : DEnv} : ∀ (d : D) (S : Sto), (match d with | .bl true => fb ρ S | .bl false => Res.ok (.bl false) S | _ => Res.stuck) ≠ Res.stuck → ∃ b, d = .bl b := fun d S h => by
  cases d with
  | bl b => exact ⟨b, rfl⟩
  | _ => exact absurd rfl h
theorem or_bool {fb : EF} {ρ : DEnv} : ∀ (d : D) (S : Sto), (match d with | .bl true => Res.ok (.bl true) S | .bl false => fb ρ S | _ => Res.stuck) ≠ Res.stuck → ∃ b, d = .bl b := fun d S h => by
  cases d with
  | bl b => exact ⟨b, rfl⟩
  | _ => exact absurd rfl h
theorem if_bool {fa fb : EF} {ρ : DEnv} : ∀ (d : D) (S : Sto), (match d with | .bl true => fa ρ S | .bl false => fb ρ S | _ => Res.stuck) ≠ Res.stuck → ∃ b, d = .bl b := fun d S h => by
  cases d with
  | bl b => exact ⟨b, rfl⟩
  | _ => exact absurd rfl h
theorem dw_and (ha : DT X W O a fa) (hb : DW X W O (.BoolOp .And (b :: rest) pos) fb) : DW X W O (.BoolOp .And (a :: b :: rest) pos) (eAnd fa fb) :=
  ⟨(pw_and ha.pt hb.pw).imp fun σ H Q ⟨ent, w, ρ, S, r, p⟩ => ⟨ent, w, ρ, S, r, p.bind and_bool fun c S1 H1 w1 x g q => by
    cases c with
    | true => rw [if_pos rfl]; exact ⟨ent, w1, ρ, S1, r.later x g, q⟩
    | false => rw [if_neg Bool.false_ne_true]; obtain ⟨_, e, q⟩ := q; cases e; exact q H1 w1 (.refl _ _) g⟩⟩
theorem dw_or (ha : DT X W O a fa) (hb : DW X W O (.BoolOp .Or (b :: rest) pos) fb) : DW X W O (.BoolOp .Or (a :: b :: rest) pos) (eOr fa fb) :=
  ⟨(pw_or ha.pt hb.pw).imp fun σ H Q ⟨ent, w, ρ, S, r, p⟩ => ⟨ent, w, ρ, S, r, p.bind or_bool fun c S1 H1 w1 x g q => by
    cases c with
    | true => rw [if_pos rfl]; obtain ⟨_, e, q⟩ := q; cases e; exact q H1 w1 (.refl _ _) g
    | false => rw [if_neg Bool.false_ne_true]; exact ⟨ent, w1, ρ, S1, r.later x g, q⟩⟩⟩
theorem not_bool : ∀ (d : D) (S : Sto), Res.ofOpt (notF d) S ≠ .stuck → ∃ b, d = .bl b := fun d S h => by
  cases d with
  | bl b => exact ⟨b, rfl⟩
  | _ => exact absurd rfl h
theorem dt_not (ha : DT X W O a fa) : DT X W O (.UnaryOp .Not a pos) (eNot fa) :=
  ⟨(pt_not ha.pt).imp fun σ H Q ⟨ent, w, ρ, S, r, p⟩ => ⟨ent, w, ρ, S, r, p.bind not_bool fun c S1 H1 w1 x g q => by
    obtain ⟨_, e, q⟩ := q; cases e; exact q H1 w1 (.refl _ _) g⟩⟩
/-- and, or, not as values -/
theorem de_one {op} (ha : DE k X W O a fa) : DE k X W O (.BoolOp op [a] pos) fa := ⟨pe_one ha.pe⟩
theorem de_and (ha : DE .e X W O a fa) (hb : DE .e X W O (.BoolOp .And (b :: rest) pos) fb) : DE .e X W O (.BoolOp .And (a :: b :: rest) pos) (eAnd fa fb) :=
  ⟨(pe_and ha.pe hb.pe).imp fun σ H Q ⟨ent, w, ρ, S, r, p⟩ => by
    have p' := PostT.val (k := .e) (p.bindT and_bool fun c S1 H1 w1 x g q => (show (if c = true then rd X.K .e W O fb σ H1 Q else Q (.bl false) H1) by
      cases c with
      | true => rw [if_pos rfl]; exact ⟨ent, w1, ρ, S1, r.later x g, q⟩
      | false => rw [if_neg Bool.false_ne_true]; exact q _ H1 w1 (.refl _ _) g (.bl false)))
    exact ⟨ent, w, ρ, S, r, p'⟩⟩
theorem de_or (ha : DE .e X W O a fa) (hb : DE .e X W O (.BoolOp .Or (b :: rest) pos) fb) : DE .e X W O (.BoolOp .Or (a :: b :: rest) pos) (eOr fa fb) :=
  ⟨(pe_or ha.pe hb.pe).imp fun σ H Q ⟨ent, w, ρ, S, r, p⟩ => by
    have p' := PostT.val (k := .e) (p.bindT or_bool fun c S1 H1 w1 x g q => (show (if c = true then Q (.bl true) H1 else rd X.K .e W O fb σ H1 Q) by
      cases c with
      | true => rw [if_pos rfl]; exact q _ H1 w1 (.refl _ _) g (.bl true)
      | false => rw [if_neg Bool.false_ne_true]; exact ⟨ent, w1, ρ, S1, r.later x g, q⟩))
    exact ⟨ent, w, ρ, S, r, p'⟩⟩
theorem de_not (ha : DE .e X W O a fa) : DE .e X W O (.UnaryOp .Not a pos) (eNot fa) :=
  ⟨(pe_not ha.pe).imp fun σ H Q ⟨ent, w, ρ, S, r, p⟩ => by
    have p' := PostT.val (k := .e) (p.bindT not_bool fun c S1 H1 w1 x g q => (show Q (.bl (!c)) H1 from q _ H1 w1 (.refl _ _) g (.bl _)))
    exact ⟨ent, w, ρ, S, r, p'⟩⟩
theorem de_ifx {c : Expr} (hc : DT X W O c fc) (ha : DE k X W O a fa) (hb : DE k X W O b fb) : DE k X W O (.IfExp c a b pos) (eIf fc fa fb) :=
  ⟨(pe_ifExp hc.pt ha.pe hb.pe).imp fun σ H Q ⟨ent, w, ρ, S, r, p⟩ => ⟨ent, w, ρ, S, r, p.bindT if_bool fun c S1 H1 w1 x g q => by
    cases c with
    | true => rw [if_pos rfl]; exact ⟨ent, w1, ρ, S1, r.later x g, q⟩
    | false => rw [if_neg Bool.false_ne_true]; exact ⟨ent, w1, ρ, S1, r.later x g, q⟩⟩⟩
/-- x is None -/
def isNonF : D → Option D
  | .non => some (.bl true)
  | _ => some (.bl false)
def notNonF : D → Option D
  | .non => some (.bl false)
  | _ => some (.bl true)
theorem KP.non {K : PySem.W.Frag} {H H' : Hp} {w' : Wit} {d : D} {v : V} {k : Kd} (h0 : KP K k H w' H' d v) : decide (v = .non) = (match d with | .non => true | _ => false) := by
  rcases (h0.b : KP K .b H w' H' d v) with h | ⟨a, rfl, h⟩
  · cases h <;> rfl
  · cases d with
    | lst _ => rfl
    | dct _ => rfl
    | dtt _ => rfl
    | dno _ => rfl
    | _ => exact h.2.2.elim
def eIsN (fa : EF) : EF := fun ρ S => (fa ρ S).bind fun x S1 => .ofOpt (isNonF x) S1
def eNotN (fa : EF) : EF := fun ρ S => (fa ρ S).bind fun x S1 => .ofOpt (notNonF x) S1
theorem isN_of {K : PySem.W.Frag} : ∀ σ H Q, rd K .e W O (eIsN fa) σ H Q → tIsN (rd K k W O fa) σ H Q := by
  rintro σ H Q ⟨ent, w, ρ, S, r, p⟩
  refine ⟨ent, w, ρ, S, r, p.bind fun d S1 v H1 w1 x g1 z p1 => ?_⟩
  rw [z.non]
  cases d <;> exact p1 _ H1 w1 (.refl _ _) g1 (.bl _)
theorem notN_of {K : PySem.W.Frag} : ∀ σ H Q, rd K .e W O (eNotN fa) σ H Q → tNotN (rd K k W O fa) σ H Q := by
  rintro σ H Q ⟨ent, w, ρ, S, r, p⟩
  refine ⟨ent, w, ρ, S, r, p.bind fun d S1 v H1 w1 x g1 z p1 => ?_⟩
  rw [z.non]
  cases d <;> exact p1 _ H1 w1 (.refl _ _) g1 (.bl _)
theorem de_notN {j pos'} (ha : DE k X W O a fa) : DE .e X W O (.Compare a [.IsNot] [.Constant .none j pos'] pos) (eNotN fa) := ⟨(pe_cmp (pc_notN ha.pe)).imp notN_of⟩
theorem dt_isN {j pos'} (ha : DE k X W O a fa) : DT X W O (.Compare a [.Is] [.Constant .none j pos'] pos) (eIsN fa) := ⟨(pt_cmp (pc_isN ha.pe)).imp fun σ H Q h => isN_of σ H _ (rdT_val (k := .e) σ H Q h)⟩
/-- a op b op' c -/
def eChain (g g' : D → D → Option D) (fa fb fc : EF) : EF := fun ρ S => (fa ρ S).bind fun x S1 => (fb ρ S1).bind fun y S2 => (Res.ofOpt (g (deref S2 x) (deref S2 y)) S2).bind fun t S3 => match t with
  | .bl true => (fc ρ S3).bind fun z S4 => .ofOpt (g' (deref S4 y) (deref S4 z)) S4
  | .bl false => .ok (.bl false) S3
  | _ => .stuck
theorem chain_of {K : PySem.W.Frag} {g g' : D → D → Option D} {kc : Kd} : ∀ σ H Q, rd K .e W O (eChain g g' fa fb fc) σ H Q → tChain (r2 K .e g) (r2 K .e g') (rd K ka W O fa) (rd K kb W O fb) (rd K kc W O fc) σ H Q := by
  rintro σ H Q ⟨ent, w, ρ, S, r, p⟩
  refine ⟨ent, w, ρ, S, r, p.bind fun d S1 v H1 w1 x g1 z p1 => ?_⟩
  refine ⟨ent, w1, ρ, S1, r.later x g1, p1.bind fun d2 S2 v2 H2 w2 x2 g2 z2 p2 => ?_⟩
  cases e : g (deref S2 d) (deref S2 d2) with
  | none => rw [e] at p2; exact p2.elim
  | some d' =>
    rw [e] at p2
    refine ⟨w2, S2, d, d2, d', g2, z.ext x2, z2.ext (.refl _ _), e, fun v3 H3 w3 x3 g3 z3 => ?_⟩
    cases d' with
    | bl t =>
      refine ⟨t, KP.bool (k := .e) z3, ?_⟩
      cases t with
      | false => rw [if_neg Bool.false_ne_true]; exact p2 _ H3 w3 x3 g3 (.bl false)
      | true =>
        rw [if_pos rfl]
        simp only [Res.ofOpt_some, Res.bind_ok] at p2
        refine ⟨ent, w3, ρ, S2, r.later (x.trans (x2.trans x3)) g3, (Post.later x3 p2).bind fun d4 S4 v4 H4 w4 x4 g4 z4 p4 => ?_⟩
        cases e' : g' (deref S4 d2) (deref S4 d4) with
        | none => rw [e'] at p4; exact p4.elim
        | some d5 => rw [e'] at p4; exact ⟨w4, S4, d2, d4, d5, g4, z2.ext (x3.trans x4), z4.ext (.refl _ _), e', p4⟩
    | _ => exact p2.elim
theorem de_chain {op op' : CmpOp} {g g' : D → D → Option D} {c : Expr} {kc : Kd} (ho : OpR X (compareOp op) (r2 X.K .e g)) (ho' : OpR X (compareOp op') (r2 X.K .e g')) (ha : DE ka X W O a fa) (hb : DE kb X W O b fb) (hc : DE kc X W O c fc)
    (hm : lastMarks [op, op'] [b, c] = false := by with_unfolding_all rfl) : DE .e X W O (.Compare a [op, op'] [b, c] pos) (eChain g g' fa fb fc) := ⟨(pe_chain ho ho' ha.pe hb.pe hc.pe hm).imp chain_of⟩
end

/-! ### statements -/
theorem R.known {K : PySem.W.Frag} {Z : Option XC} {ent : Ent Z} {O : List Nat} {w : Wit} {H : Hp} {σ : L2.St} {ρ : DEnv} {S : Sto} (r : R K ent O w H σ ρ S) : R K (⟨ent.w, ent.H, w⟩ : Ent Z) O w H σ ρ S := ⟨r.gd, r.ext, .refl _, r.val, r.own, r.dis, r.len, r.exc, r.thk⟩
theorem R.unknown {K : PySem.W.Frag} {Z : Option XC} {ent : Ent Z} {k : Wit} {O : List Nat} {w : Wit} {H : Hp} {σ : L2.St} {ρ : DEnv} {S : Sto} (r : R K (⟨ent.w, ent.H, k⟩ : Ent Z) O w H σ ρ S) (l : Le ent.k k) : R K ent O w H σ ρ S := ⟨r.gd, r.ext, l.trans r.kn, r.val, r.own, r.dis, r.len, r.exc, r.thk⟩
structure Lp where
  ct : List Nat
  bk : List Nat
def SPost (K : PySem.W.Frag) {Z : Option XC} (ent : Ent Z) (L : Lp) (W : WZ) (O' : List Nat) (r : SRes) (En : Ends) : Prop := match r with
  | .nx ρ S => ∀ w H σ, R K ent O' w H σ ρ S → En.nx σ H
  | .rt d S => ∀ v H w, Ext ent.w ent.H w H → Gd K w H S → KP K W.rk ent.H w H d v → En.rt v H
  | .bk ρ S => ∀ w H σ, R K ent L.bk w H σ ρ S → En.bk σ H
  | .ct ρ S => ∀ w H σ, R K ent L.ct w H σ ρ S → En.ct σ H
  | .exn x ρ S => ∀ w H σ cls dx, R K ent [] w H σ ρ S → RepX K w H x cls dx → W.wx cls dx σ H
  | .stuck => False
def rdS (K : PySem.W.Frag) (L : Lp) (W : WZ) (O O' : List Nat) (f : SF) : TS := fun D σ H => ∃ (ent : Ent W.xc) (w : Wit) (ρ : DEnv) (S : Sto), R K ent O w H σ ρ S ∧ SPost K ent L W O' (f ρ S) D
structure DS (X : Cx) (W : WZ) (L : Lp) (O : List Nat) (st : Stmt) (O' : List Nat) (f : SF) : Prop where
  ps : PS X st (rdS X.K L W O O' f)
structure DSs (X : Cx) (W : WZ) (L : Lp) (O : List Nat) (st : List Stmt) (O' : List Nat) (f : SF) : Prop where
  ps : PSs X st (rdS X.K L W O O' f)
def sNext : SF := fun ρ S => .nx ρ S
def sSeq (f g : SF) : SF := fun ρ S => match f ρ S with
  | .nx ρ1 S1 => g ρ1 S1
  | r => r
/-- a def's exception out of an expression -/
theorem exn_of {K : PySem.W.Frag} {Z : Option XC} {ent : Ent Z} {O : List Nat} {w : Wit} {H : Hp} {W : WZ} {σ : L2.St} {ρ : DEnv} {S S' : Sto} {x : D} {L : Lp} {O' : List Nat} {En : Ends} (r : R K ent O w H σ ρ S) (p : SPost K ent L W O' (.exn x ρ S') En) :
    ∀ cls dx H' w', Ext w H w' H' → Gd K w' H' S' → RepX K w' H' x cls dx → W.wx cls dx σ H' := fun cls dx H' w' y g h => by
  obtain ⟨w2, l2, r2⟩ := (r.later y g).weak [] (by simp)
  exact p w2 H' σ cls dx r2 (h.mono l2)
section
variable {X : Cx} {W : WZ} {L : Lp} {O O1 O2 O' : List Nat} {st : Stmt} {rest : List Stmt} {f g : SF}
theorem dss_nil : DSs X W L O [] O sNext := ⟨pss_nil.imp fun D σ H ⟨ent, w, ρ, S, r, p⟩ => p w H σ r⟩
theorem seq_of {K : PySem.W.Frag} : ∀ D σ H, rdS K L W O O2 (sSeq f g) D σ H → tSeq (rdS K L W O O1 f) (rdS K L W O1 O2 g) D σ H := by
  rintro D σ H ⟨ent, w, ρ, S, r, p⟩
  refine ⟨ent, w, ρ, S, r, ?_⟩
  unfold sSeq at p
  cases e : f ρ S with
  | nx ρ1 S1 => rw [e] at p; exact fun w1 H1 σ1 r1 => ⟨ent, w1, ρ1, S1, r1, p⟩
  | rt d S1 => rw [e] at p; exact p
  | bk ρ1 S1 => rw [e] at p; exact p
  | ct ρ1 S1 => rw [e] at p; exact p
  | exn x ρ1 S1 => rw [e] at p; exact p
  | stuck => rw [e] at p; exact p
theorem dss_cons (h1 : DS X W L O st O1 f) (h2 : DSs X W L O1 rest O2 g) : DSs X W L O (st :: rest) O2 (sSeq f g) := ⟨(pss_cons h1.ps h2.ps).imp seq_of⟩
theorem dss_one (h1 : DS X W L O st O1 f) : DSs X W L O [st] O1 f := ⟨pss_one h1.ps⟩
/-- own lists given away ahead of a statement -/
theorem DS.pre (h : DS X W L O1 st O' f) (hs : ∀ i, i ∈ O1 → i ∈ O := by decide) : DS X W L O st O' f := ⟨h.ps.imp fun D σ H ⟨ent, w, ρ, S, r, p⟩ => let ⟨w', _, r'⟩ := r.weak O1 hs; ⟨ent, w', ρ, S, r', p⟩⟩
theorem DSs.pre (h : DSs X W L O1 rest O' f) (hs : ∀ i, i ∈ O1 → i ∈ O := by decide) : DSs X W L O rest O' f := ⟨h.ps.imp fun D σ H ⟨ent, w, ρ, S, r, p⟩ => let ⟨w', _, r'⟩ := r.weak O1 hs; ⟨ent, w', ρ, S, r', p⟩⟩
theorem SPost.post {K : PySem.W.Frag} {Z : Option XC} {ent : Ent Z} {r : SRes} {En : Ends} (hs : ∀ i, i ∈ O' → i ∈ O1) (p : SPost K ent L W O' r En) : SPost K ent L W O1 r En := by
  cases r with
  | nx ρ S => intro w H σ r; obtain ⟨w', _, r'⟩ := r.weak O' hs; exact p w' H σ r'
  | rt d S1 => exact p
  | bk ρ1 S1 => exact p
  | ct ρ1 S1 => exact p
  | exn x ρ1 S1 => exact p
  | stuck => exact p
theorem DSs.post (h : DSs X W L O rest O1 f) (hs : ∀ i, i ∈ O' → i ∈ O1 := by decide) : DSs X W L O rest O' f := ⟨h.ps.imp fun D σ H ⟨ent, w, ρ, S, r, p⟩ => ⟨ent, w, ρ, S, r, p.post hs⟩⟩
theorem DS.post (h : DS X W L O st O1 f) (hs : ∀ i, i ∈ O' → i ∈ O1 := by decide) : DS X W L O st O' f := ⟨h.ps.imp fun D σ H ⟨ent, w, ρ, S, r, p⟩ => ⟨ent, w, ρ, S, r, p.post hs⟩⟩
/-- code that is not reached -/
def sNever : SF := fun _ _ => .stuck
theorem ds_never : DS X W L O st O' sNever := ⟨ps_never.imp fun D σ H ⟨ent, w, ρ, S, r, p⟩ => p⟩
theorem dss_never : DSs X W L O rest O' sNever := ⟨pss_never.imp fun D σ H ⟨ent, w, ρ, S, r, p⟩ => p⟩
end
/-- what comes of an expression's value -/
def sBind (r : Res) (ρ : DEnv) (k : D → Sto → SRes) : SRes := match r with
  | .ok d S => k d S
  | .exn x S => .exn x ρ S
  | .stuck => .stuck
theorem SPost.bind {K : PySem.W.Frag} {Z : Option XC} {ent : Ent Z} {O O' : List Nat} {w : Wit} {H : Hp} {W : WZ} {σ : L2.St} {ρ : DEnv} {S : Sto} {L : Lp} {En : Ends} {re : Res} {c : D → Sto → SRes} {k : Kd} {Q : VK} (r : R K ent O w H σ ρ S)
    (p : SPost K ent L W O' (sBind re ρ c) En) (h : ∀ d S1 v H1 w1, Ext w H w1 H1 → Gd K w1 H1 S1 → KP K k H w1 H1 d v → SPost K ent L W O' (c d S1) En → Q v H1) : Post K k w H W σ re Q := by
  cases re with
  | ok d S1 => exact fun v H1 w1 x g z => h d S1 v H1 w1 x g z p
  | exn x S1 => exact exn_of r p
  | stuck => exact p
theorem SPost.bindT {K : PySem.W.Frag} {Z : Option XC} {ent : Ent Z} {O O' : List Nat} {w : Wit} {H : Hp} {W : WZ} {σ : L2.St} {ρ : DEnv} {S : Sto} {L : Lp} {En : Ends} {re : Res} {c : D → Sto → SRes} {Q : Bool → Hp → Prop} (r : R K ent O w H σ ρ S)
    (p : SPost K ent L W O' (sBind re ρ c) En) (hs : ∀ d S, c d S ≠ .stuck → ∃ b, d = .bl b) (h : ∀ b S1 H1 w1, Ext w H w1 H1 → Gd K w1 H1 S1 → SPost K ent L W O' (c (.bl b) S1) En → Q b H1) : PostT K w H W σ re Q := by
  cases re with
  | ok d S1 =>
    have hn : c d S1 ≠ .stuck := fun q => by
      have p' : SPost K ent L W O' (c d S1) En := p
      rw [q] at p'; exact p'
    obtain ⟨b, rfl⟩ := hs d S1 hn
    exact ⟨b, rfl, fun H1 w1 x g => h b S1 H1 w1 x g p⟩
  | exn x S1 => exact exn_of r p
  | stuck => exact p
def sRet (f : EF) : SF := fun ρ S => sBind (f ρ S) ρ fun d S1 => .rt d S1
def sRetN : SF := fun ρ S => .rt .non S
def sExpr (f : EF) : SF := fun ρ S => sBind (f ρ S) ρ fun _ S1 => .nx ρ S1
def sSet (i : Nat) (f : EF) : SF := fun ρ S => sBind (f ρ S) ρ fun d S1 => .nx (ρ.set i (some d)) S1
def sIf (c : EF) (f g : SF) : SF := fun ρ S => sBind (c ρ S) ρ fun d S1 => match d with
  | .bl true => f ρ S1
  | .bl false => g ρ S1
  | _ => .stuck
section
variable {X : Cx} {W : WZ} {L : Lp} {O O1 O2 O' : List Nat} {e c : Expr} {fe fc : EF} {f g : SF} {pos : Pos} {k : Kd}
theorem KP.since {K : PySem.W.Frag} {k : Kd} {H0 H H' : Hp} {w' : Wit} {d : D} {v : V} (h : KP K k H w' H' d v) (t : ∀ a, Nb (H a) → Nb (H0 a)) : KP K k H0 w' H' d v := by
  cases k with
  | e => exact h
  | b => exact h
  | f =>
    obtain ⟨a, e, n, o⟩ := h
    exact ⟨a, e, t a n, o⟩
theorem ds_retK (he : DE W.rk X W O e fe) : DS X W L O (.Return (some e) pos) O' (sRet fe) :=
  ⟨(ps_ret he.pe).imp fun D σ H ⟨ent, w, ρ, S, r, p⟩ => ⟨ent, w, ρ, S, r, SPost.bind r p fun d S1 v H1 w1 x g1 z q => q v H1 w1 (r.ext.trans x) g1 (KP.since z r.ext.there)⟩⟩
theorem ds_ret (he : DE .e X W O e fe) (hk : W.rk = .e := by rfl) : DS X W L O (.Return (some e) pos) O' (sRet fe) := ds_retK (hk ▸ he)
theorem ds_retN (hk : W.rk = .e := by rfl) : DS X W L O (.Return none pos) O' sRetN := ⟨ps_retN.imp fun D σ H ⟨ent, w, ρ, S, r, p⟩ => p .non H w r.ext r.gd (by rw [hk]; exact Rep.non)⟩
theorem ds_expr (he : DE k X W O e fe) (hs : swapsWith e none pos.line X.env = pure false := by rfl) : DS X W L O (.Expr e pos) O (sExpr fe) :=
  ⟨(ps_expr he.pe hs).imp fun D σ H ⟨ent, w, ρ, S, r, p⟩ => ⟨ent, w, ρ, S, r, SPost.bind r p fun d S1 v H1 w1 x g1 z q => q w1 H1 σ (r.later x g1)⟩⟩
/-- name = value -/
theorem set_of {K : PySem.W.Frag} {i : Nat} (hO : i ∉ O) : ∀ D σ H, rdS K L W O O (sSet i fe) D σ H → tAsg (rd K .e W O fe) (gName i) D σ H :=
  fun D σ H ⟨ent, w, ρ, S, r, p⟩ => ⟨ent, w, ρ, S, r, SPost.bind r p fun d S1 v H1 w1 x g1 z q => q w1 H1 _ ((r.later x g1).put hO z)⟩
/-- name = a new list, which is the def's own -/
theorem setOwn_of {K : PySem.W.Frag} {i : Nat} (hO : i ∉ O) : ∀ D σ H, rdS K L W O (i :: O) (sSet i fe) D σ H → tAsg (rd K .f W O fe) (gName i) D σ H := by
  rintro D σ H ⟨ent, w, ρ, S, r, p⟩
  refine ⟨ent, w, ρ, S, r, SPost.bind r p ?_⟩
  rintro d S1 v H1 w1 x g1 ⟨a, rfl, n, o⟩ q
  refine q w1 H1 _ ((r.later x g1).putOwn o ?_ fun j hj _ ⟨ej, he⟩ hs => ?_)
  · exact r.ext.there a n
  · obtain ⟨b, s1, s2, _⟩ := r.own j ej he hj
    rw [hs] at s1; cases s1
    exact s2.nt.nb n
theorem ds_set (i : Nat) {x : Str} {pos' : Pos} (he : DE .e X W O e fe) (hN : X.N.Nodup) (hO : i ∉ O := by decide) (hi : X.N[i]? = some x := by rfl) (hx : Loc X.env.scope x := by first | exact Or.inl rfl | exact Or.inr rfl) (hs : swapsWith e (some (.Name x pos')) pos.line X.env = pure false := by rfl) (hf : X.fn x = true ∨ X.env.scope.names.lookup x = some .local := by first | exact .inl rfl | exact .inr rfl | assumption) :
    DS X W L O (.Assign [.Name x pos'] e pos) O (sSet i fe) := ⟨(ps_set hN hi hx he.pe hs hf).imp (set_of hO)⟩
theorem ds_own (i : Nat) {x : Str} {pos' : Pos} (he : DE .f X W O e fe) (hN : X.N.Nodup) (hO : i ∉ O := by decide) (hi : X.N[i]? = some x := by rfl) (hx : Loc X.env.scope x := by first | exact Or.inl rfl | exact Or.inr rfl) (hs : swapsWith e (some (.Name x pos')) pos.line X.env = pure false := by rfl) (hf : X.fn x = true ∨ X.env.scope.names.lookup x = some .local := by first | exact .inl rfl | exact .inr rfl | assumption) :
    DS X W L O (.Assign [.Name x pos'] e pos) (i :: O) (sSet i fe) := ⟨(ps_set hN hi hx he.pe hs hf).imp (setOwn_of hO)⟩
theorem ifs_bool {f g : SF} {ρ : DEnv} : ∀ (d : D) (S : Sto), (match d with | .bl true => f ρ S | .bl false => g ρ S | _ => SRes.stuck) ≠ SRes.stuck → ∃ b, d = .bl b := fun d S h => by
  cases d with
  | bl b => exact ⟨b, rfl⟩
  | _ => exact absurd rfl h
theorem ds_if {a b : List Stmt} (hc : DT X W O c fc) (ha : DSs X W L O a O' f) (hb : DSs X W L O b O' g) : DS X W L O (.If c a b pos) O' (sIf fc f g) :=
  ⟨(ps_if hc.pt ha.ps hb.ps).imp fun D σ H ⟨ent, w, ρ, S, r, p⟩ => ⟨ent, w, ρ, S, r, SPost.bindT r p ifs_bool fun b S1 H1 w1 x g1 q => by
    cases b with
    | true => rw [if_pos rfl]; exact ⟨ent, w1, ρ, S1, r.later x g1, q⟩
    | false => rw [if_neg Bool.false_ne_true]; exact ⟨ent, w1, ρ, S1, r.later x g1, q⟩⟩⟩
end

/-! ### targets -/
abbrev GF := D → DEnv → Option DEnv
structure GOk (K : PySem.W.Frag) (O : List Nat) (f : GF) (t : TG) : Prop where
  env : ∀ d ρ ρ', f d ρ = some ρ' → ∀ i, i ∈ O → ρ'[i]? = ρ[i]?
  ok : ∀ {Z : Option XC} {ent : Ent Z} {w : Wit} {H : Hp} {σ : L2.St} {ρ : DEnv} {S : Sto} {d : D} {v : V} {ρ' : DEnv} {Q : L2.St → Hp → Prop}, R K ent O w H σ ρ S → Rep K w d v → f d ρ = some ρ' → (∀ σ', (∀ i, i ∈ O → σ'[i]? = σ[i]?) → R K ent O w H σ' ρ' S → Q σ' H) → t v σ H Q
structure DG (X : Cx) (O : List Nat) (tg : Expr) (f : GF) (t : TG) : Prop where
  pg : PG X tg t
  ok : GOk X.K O f t
def gtName (i : Nat) : GF := fun d ρ => some (ρ.set i (some d))
theorem gok_name {K : PySem.W.Frag} {O : List Nat} (i : Nat) (hO : i ∉ O := by decide) : GOk K O (gtName i) (gName i) := ⟨fun d ρ ρ' e j hj => by cases e; exact List.getElem?_set_ne (fun z : i = j => hO (by rw [z]; exact hj)), fun r h e q => by cases e; exact q _ (fun j hj => List.getElem?_set_ne (fun z : i = j => hO (by rw [z]; exact hj))) (r.put hO h)⟩
theorem dg_name {X : Cx} {O : List Nat} (i : Nat) {x : Str} {pos : Pos} (hN : X.N.Nodup) (hO : i ∉ O := by decide) (hi : X.N[i]? = some x := by rfl) (hx : Loc X.env.scope x := by first | exact Or.inl rfl | exact Or.inr rfl) (hf : X.fn x = true ∨ X.env.scope.names.lookup x = some .local := by first | exact .inl rfl | exact .inr rfl | assumption) :
    DG X O (.Name x pos) (gtName i) (gName i) := ⟨pg_name hN hi hx hf, gok_name i hO⟩
def gtNil : List D → DEnv → Option DEnv := fun ds ρ => match ds with
  | [] => some ρ
  | _ => none
def gtCons (f : GF) (g : List D → DEnv → Option DEnv) : List D → DEnv → Option DEnv := fun ds ρ => match ds with
  | d :: r => (f d ρ).bind fun ρ' => g r ρ'
  | [] => none
structure GOks (K : PySem.W.Frag) (O : List Nat) (n : Nat) (f : List D → DEnv → Option DEnv) (t : TGs) : Prop where
  len : ∀ ds ρ ρ', f ds ρ = some ρ' → ds.length = n
  env : ∀ ds ρ ρ', f ds ρ = some ρ' → ∀ i, i ∈ O → ρ'[i]? = ρ[i]?
  ok : ∀ {Z : Option XC} {ent : Ent Z} {w : Wit} {H : Hp} {σ : L2.St} {ρ : DEnv} {S : Sto} {ds : List D} {vs : List V} {ρ' : DEnv} {Q : L2.St → Hp → Prop}, R K ent O w H σ ρ S → Reps K w ds vs → f ds ρ = some ρ' → (∀ σ', (∀ i, i ∈ O → σ'[i]? = σ[i]?) → R K ent O w H σ' ρ' S → Q σ' H) → t vs σ H Q
structure DGs (X : Cx) (O : List Nat) (tgs : List Expr) (f : List D → DEnv → Option DEnv) (t : TGs) : Prop where
  pg : PGs X tgs t
  ok : GOks X.K O tgs.length f t
theorem gtNil_len : ∀ (ds : List D) (ρ ρ' : DEnv), gtNil ds ρ = some ρ' → ds.length = 0 := fun ds ρ ρ' e => by
  cases ds with
  | nil => rfl
  | cons a b => cases (show (none : Option DEnv) = some ρ' from e)
theorem gtCons_some {f : GF} {g : List D → DEnv → Option DEnv} {ds : List D} {ρ ρ' : DEnv} (e : gtCons f g ds ρ = some ρ') : ∃ d r ρ1, ds = d :: r ∧ f d ρ = some ρ1 ∧ g r ρ1 = some ρ' := by
  cases ds with
  | nil => cases (show (none : Option DEnv) = some ρ' from e)
  | cons a b =>
    have e' : (f a ρ).bind (fun ρ' => g b ρ') = some ρ' := e
    cases z : f a ρ with
    | none => rw [z] at e'; cases (show (none : Option DEnv) = some ρ' from e')
    | some ρ1 => rw [z] at e'; exact ⟨a, b, ρ1, rfl, z, e'⟩
theorem goks_nil {K : PySem.W.Frag} {O : List Nat} : GOks K O 0 gtNil gNil where
  len := gtNil_len
  env := fun ds ρ ρ' e i hi => by
    cases ds with
    | nil => cases e; rfl
    | cons a b => cases (show (none : Option DEnv) = some ρ' from e)
  ok := fun {Z ent w H σ ρ S ds vs ρ' Q} r h e q => by
    cases h with
    | nil => cases e; exact ⟨rfl, q _ (fun _ _ => rfl) r⟩
    | cons h t => cases (show (none : Option DEnv) = some ρ' from e)
theorem goks_cons {K : PySem.W.Frag} {O : List Nat} {n : Nat} {f : GF} {g : List D → DEnv → Option DEnv} {t : TG} {u : TGs} (h1 : GOk K O f t) (h2 : GOks K O n g u) : GOks K O (n + 1) (gtCons f g) (gCons t u) where
  len := fun ds ρ ρ' e => by
    obtain ⟨d, r, ρ1, rfl, _, e2⟩ := gtCons_some e
    simp [h2.len _ _ _ e2]
  env := fun ds ρ ρ' e i hi => by
    obtain ⟨d, r, ρ1, rfl, e1, e2⟩ := gtCons_some e
    exact (h2.env _ _ _ e2 i hi).trans (h1.env _ _ _ e1 i hi)
  ok := fun {Z ent w H σ ρ S ds vs ρ' Q} r h e q => by
    obtain ⟨d, ds', ρ1, rfl, e1, e2⟩ := gtCons_some e
    cases h with
    | @cons d v ds vs h tt => exact ⟨v, vs, rfl, h1.ok r h e1 fun σ1 s1 r1 => h2.ok r1 tt e2 fun σ2 s2 r2 => q σ2 (fun i hi => (s2 i hi).trans (s1 i hi)) r2⟩
theorem dgs_nil {X : Cx} {O : List Nat} : DGs X O [] gtNil gNil := ⟨pgs_nil, goks_nil⟩
theorem dgs_cons {X : Cx} {O : List Nat} {e : Expr} {es : List Expr} {f : GF} {g : List D → DEnv → Option DEnv} {t : TG} {u : TGs} (h1 : DG X O e f t) (h2 : DGs X O es g u)
    (hs : (assignEach (e :: es) X.env).map (·.2) = assign e X.env :: (assignEach es X.env).map (·.2) := by rfl) : DGs X O (e :: es) (gtCons f g) (gCons t u) := ⟨pgs_cons h1.pg h2.pg hs, goks_cons h1.ok h2.ok⟩
def gtTup (g : List D → DEnv → Option DEnv) : GF := fun d ρ => match d with
  | .tup ds => g ds ρ
  | _ => none
theorem gok_tup {K : PySem.W.Frag} {O : List Nat} {n : Nat} {g : List D → DEnv → Option DEnv} {u : TGs} (h : GOks K O n g u) : GOk K O (gtTup g) (gTup K n u) where
  env := fun d ρ ρ' e i hi => by
    cases d with
    | tup ds => exact h.env ds ρ ρ' e i hi
    | _ => cases (show (none : Option DEnv) = some ρ' from e)
  ok := fun {Z ent w H σ ρ S d v ρ' Q} r k e q => by
    cases k with
    | @tup a vs ds hq rs =>
      exact ⟨a, vs, rfl, SqT.of (r.gd.sub _ _ hq), by rw [← rs.length]; exact h.len _ _ _ e, h.ok r rs e q⟩
    | _ => cases (show (none : Option DEnv) = some ρ' from e)
theorem dg_tup {X : Cx} {O : List Nat} {es : List Expr} {g : List D → DEnv → Option DEnv} {u : TGs} {j : Nat} {pos : Pos} (h : DGs X O es g u) (hc : X.calm = true := by rfl) (hn : (assignEach es X.env).length = es.length := by rfl) (hst : (assignEach es X.env).findIdx? (·.1) = none := by rfl) :
    DG X O (.Tuple es j pos) (gtTup g) (gTup X.K es.length u) := ⟨pg_tup hc h.pg hn hst, gok_tup h.ok⟩
/-- target = value, the target a tuple of names -/
def sUnp (g : GF) (f : EF) : SF := fun ρ S => sBind (f ρ S) ρ fun d S1 => match g d ρ with
  | some ρ' => .nx ρ' S1
  | none => .stuck
theorem ds_unp {X : Cx} {W : WZ} {L : Lp} {O : List Nat} {tg e : Expr} {g : GF} {t : TG} {fe : EF} {pos : Pos} (he : DE .e X W O e fe) (hg : DG X O tg g t) (hs : swapsWithSole [tg] e pos.line X.env = pure false := by rfl) (hw : swappedStores [tg] e X.env = pure none := by rfl)
    (h1 : (assignEach [tg] X.env).map (·.2) = [assign tg X.env] := by rfl) : DS X W L O (.Assign [tg] e pos) O (sUnp g fe) :=
  ⟨(ps_asg he.pe hg.pg hs hw h1).imp fun D σ H ⟨ent, w, ρ, S, r, p⟩ => ⟨ent, w, ρ, S, r, SPost.bind r p fun d S1 v H1 w1 x g1 z q => by
    cases e : g d ρ with
    | none => rw [e] at q; exact q.elim
    | some ρ' => rw [e] at q; exact hg.ok.ok (r.later x g1) z e fun σ' _ r' => q w1 H1 σ' r'⟩⟩

/-! ### loops -/
/-- the things that J yields -/
def ItOk (K : PySem.W.Frag) (w : Wit) (J : It) (ds : List D) : Prop := ∀ w' H' S' i, Le w w' → Gd K w' H' S' →
  (∀ d, ds[i]? = some d → J.go i H' ∧ ∀ x H2, J.yld i H' x H2 → ∃ w2, Ext w' H' w2 H2 ∧ Gd K w2 H2 S' ∧ Rep K w2 d x) ∧ (i = ds.length → J.stop i H')
def PostI (K : PySem.W.Frag) (w : Wit) (H : Hp) (W : WZ) (σ : L2.St) (r : Ress) (Q : It → Hp → Prop) : Prop := match r with
  | .ok ds S => ∀ J H' w', Ext w H w' H' → Gd K w' H' S → ItOk K w' J ds → ds.length ≤ sizeLine → Q J H'
  | .exn x S => ∀ cls dx H' w', Ext w H w' H' → Gd K w' H' S → RepX K w' H' x cls dx → W.wx cls dx σ H'
  | .stuck => False
abbrev IF := DEnv → Sto → Ress
def rdI (K : PySem.W.Frag) (W : WZ) (O : List Nat) (f : IF) : TI := fun σ H Q => ∃ (ent : Ent W.xc) (w : Wit) (ρ : DEnv) (S : Sto), R K ent O w H σ ρ S ∧ PostI K w H W σ (f ρ S) Q
structure DI (X : Cx) (W : WZ) (O : List Nat) (tg it : Expr) (f : IF) : Prop where
  pi : PI X tg it (rdI X.K W O f)
def forD (g : GF) (body : SF) : List D → DEnv → Sto → SRes
  | [], ρ, S => .nx ρ S
  | x :: xs, ρ, S => match g x ρ with
    | none => .stuck
    | some ρ1 => match body ρ1 S with
      | .nx ρ2 S2 => forD g body xs ρ2 S2
      | .ct ρ2 S2 => forD g body xs ρ2 S2
      | .bk ρ2 S2 => .nx ρ2 S2
      | r => r
def sFor (fi : IF) (g : GF) (body : SF) : SF := fun ρ S => match fi ρ S with
  | .ok ds S1 => forD g body ds ρ S1
  | .exn x S1 => .exn x ρ S1
  | .stuck => .stuck
theorem ds_for {X : Cx} {W : WZ} {L : Lp} {O : List Nat} {tg iter : Expr} {body : List Stmt} {fi : IF} {g : GF} {t : TG} {fb : SF} {pos : Pos} (hp : PassesOwn (model X.prog X.w) X.A X.env X.xe) (hi : DI X W O tg iter fi) (hg : DG X O tg g t) (hb : DSs X W ⟨O, O⟩ O body O fb)
    (hc : X.calm = true := by rfl) (hs : ∀ x, foldedSetIterable iter X.env x = pure x := by intro _; rfl) : DS X W L O (.For tg iter body [] pos) O (sFor fi g fb) := by
  refine ⟨(ps_for hp hc hi.pi hg.pg hb.ps hs).imp ?_⟩
  rintro D σ H ⟨ent, w, ρ, S, r, p⟩
  refine ⟨ent, w, ρ, S, r, ?_⟩
  unfold sFor at p
  cases e : fi ρ S with
  | stuck => rw [e] at p; exact p
  | exn x S1 => rw [e] at p; exact exn_of r p
  | ok ds S1 =>
    rw [e] at p
    intro J H1 w1 x1 g1 hJ hz
    refine ⟨fun i m σ H => m = ds.length - i ∧ i ≤ ds.length ∧ ∃ w ρ S, R X.K (⟨ent.w, ent.H, w1⟩ : Ent _) O w H σ ρ S ∧ SPost X.K ent L W O (forD g fb (ds.drop i) ρ S) D, ⟨ds.length, by simp, Nat.zero_le _, w1, ρ, S1, (r.later x1 g1).known, by simpa using p⟩, ?_⟩
    rintro i m σ2 H2 ⟨rfl, hi, w2, ρ2, S2, r2, p2⟩
    have l2 : Le w1 w2 := r2.kn
    have lk : Le ent.k w1 := r.kn.trans x1.le
    obtain ⟨j1, j2⟩ := hJ w2 H2 S2 i l2 r2.gd
    by_cases hlt : i < ds.length
    · obtain ⟨jg, jy⟩ := j1 ds[i] (List.getElem?_eq_getElem hlt)
      refine .inr ⟨jg, fun σ' H' => ∃ w' ρ' S', R X.K (⟨ent.w, ent.H, w1⟩ : Ent _) O w' H' σ' ρ' S' ∧ SPost X.K ent L W O (forD g fb (ds.drop (i + 1)) ρ' S') D, fun σ' H' ⟨w', ρ', S', r', p'⟩ => ⟨ds.length - (i + 1), by omega, rfl, hlt, w', ρ', S', r', p'⟩, fun x H3 y => ?_⟩
      obtain ⟨w3, x3, g3, z3⟩ := jy x H3 y
      rw [List.drop_eq_getElem_cons hlt] at p2
      unfold forD at p2
      cases e2 : g ds[i] ρ2 with
      | none => rw [e2] at p2; exact p2.elim
      | some ρ3 =>
        rw [e2] at p2
        dsimp only at p2
        refine hg.ok.ok (r2.later x3 g3) z3 e2 fun σ3 _ r3 => ⟨(⟨ent.w, ent.H, w1⟩ : Ent _), w3, ρ3, S2, r3, ?_⟩
        cases e3 : fb ρ3 S2 with
        | nx ρ4 S4 => rw [e3] at p2; exact fun w4 H4 σ4 r4 => ⟨w4, ρ4, S4, r4, p2⟩
        | ct ρ4 S4 => rw [e3] at p2; exact fun w4 H4 σ4 r4 => ⟨w4, ρ4, S4, r4, p2⟩
        | bk ρ4 S4 => rw [e3] at p2; exact fun w4 H4 σ4 r4 => p2 w4 H4 σ4 (r4.unknown lk)
        | rt d S4 => rw [e3] at p2; exact p2
        | exn x ρ4 S4 => rw [e3] at p2; exact fun w4 H4 σ4 cls dx r4 h4 => p2 w4 H4 σ4 cls dx (r4.unknown lk) h4
        | stuck => rw [e3] at p2; exact p2
    · have ei : i = ds.length := by omega
      subst ei
      refine .inl ⟨j2 rfl, ?_⟩
      rw [List.drop_length] at p2
      exact p2 w2 H2 σ2 (r2.unknown lk)
end DL

/-! what is walked; comprehensions; while; defs and their calls -/
namespace DL
open PySem PySem.Spec PyProof.Rows L2

/-- the list is long enough for nobody -/
def LIM : Nat := 1000000
theorem lim_size {n : Nat} (h : n < LIM) : n < sizeLine := Nat.lt_trans h (by decide)

/-! ### what is walked -/
def iSeq (f : EF) : IF := fun ρ S => match f ρ S with
  | .ok d S1 => (match d with
    | .lst ds => .ok ds S1
    | .tup ds => .ok ds S1
    | .ctp ds => .ok ds S1
    | _ => .stuck)
  | .exn x S1 => .exn x S1
  | .stuck => .stuck
section
variable {K : PySem.W.Frag} {w : Wit} {a : Addr} {vs : List V} {ds : List D}
theorem itok_list (h : SqL K w.F a vs) (r : Reps K w ds vs) : ItOk K w (Itl K a) ds := fun w' H' S' i l g => by
  have hq : SqL K H' a vs := SqL.monoF g.sub (SqL.monoF l.F h)
  refine ⟨fun d e => ?_, fun hl => ⟨vs, hq, by rw [← r.length]; exact Nat.le_of_eq hl.symm⟩⟩
  obtain ⟨v, ev, rv⟩ := r.get e
  refine ⟨⟨vs, v, hq, ev⟩, fun x H2 y => ?_⟩
  obtain ⟨rfl, y⟩ := y
  have := y vs hq
  rw [ev] at this; cases this
  exact ⟨w', .refl _ _, g, rv.mono l⟩
theorem itok_tup (h : SqT K w.F a vs) (r : Reps K w ds vs) : ItOk K w (Itt K a) ds := fun w' H' S' i l g => by
  have hq : SqT K H' a vs := SqT.monoF g.sub (SqT.monoF l.F h)
  refine ⟨fun d e => ?_, fun hl => ⟨vs, hq, by rw [← r.length]; exact Nat.le_of_eq hl.symm⟩⟩
  obtain ⟨v, ev, rv⟩ := r.get e
  refine ⟨⟨vs, v, hq, ev⟩, fun x H2 y => ?_⟩
  obtain ⟨rfl, y⟩ := y
  have := y vs hq
  rw [ev] at this; cases this
  exact ⟨w', .refl _ _, g, rv.mono l⟩
theorem itok_range {lo : Int} {n : Nat} : ItOk K w (Itr lo n) ((List.range n).map fun (k : Nat) => D.int (lo + k)) := fun w' H' S' i l g => by
  refine ⟨fun d e => ?_, fun hl => (by simpa using Nat.le_of_eq hl.symm : n ≤ i)⟩
  have hi : i < n := by have := (List.getElem?_eq_some_iff.mp e).1; simpa using this
  refine ⟨hi, fun x H2 y => ?_⟩
  obtain ⟨rfl, rfl⟩ := y
  refine ⟨w', .refl _ _, g, ?_⟩
  rw [List.getElem?_map, List.getElem?_range hi] at e
  cases e
  exact .int _
end
section
variable {X : Cx} {W : WZ} {O : List Nat} {tg e e' : Expr} {es : List Expr} {f : EF} {fa : AF} {k : Kd}
theorem _root_.L2.PI.or {X : Cx} {tg e : Expr} {t t' : TI} (h : PI X tg e t) (h' : PI X tg e t') : PI X tg e (fun σ H R => t σ H R ∨ t' σ H R) :=
  ⟨fun pins s σ H R I q => q.elim (h.run pins s σ H R I) (h'.run pins s σ H R I)⟩
theorem di_seq (he : DE .e X W O e f) : DI X W O tg e (iSeq f) := by
  refine ⟨((pi_list he.pe.sz).or (pi_tup he.pe.sz)).imp ?_⟩
  rintro σ H Q ⟨ent, w, ρ, S, r, p⟩
  unfold iSeq at p
  cases e1 : f ρ S with
  | stuck => rw [e1] at p; exact p.elim
  | exn x S1 => rw [e1] at p; exact .inl ⟨ent, w, ρ, S, r, by rw [e1]; exact p⟩
  | ok d S1 =>
    rw [e1] at p
    cases d with
    | lst ds =>
      refine .inl ⟨ent, w, ρ, S, r, ?_⟩
      rw [e1]
      intro v H1 w1 x1 g1 z hz
      cases z with
      | @lst a vs ds h rr =>
        have hh := SqL.monoF g1.sub h
        exact ⟨a, rfl, ⟨vs, hh⟩, p _ H1 w1 x1 g1 (itok_list h rr) (by rw [rr.length]; exact hz a vs (.inl hh))⟩
    | tup ds =>
      refine .inr ⟨ent, w, ρ, S, r, ?_⟩
      rw [e1]
      intro v H1 w1 x1 g1 z hz
      cases z with
      | @tup a vs ds h rr =>
        have hh : SqT X.K H1 a vs := SqT.of (g1.sub _ _ h)
        exact ⟨a, rfl, ⟨vs, hh⟩, p _ H1 w1 x1 g1 (itok_tup (SqT.of h) rr) (by rw [rr.length]; exact hz a vs (.inr hh))⟩
    | ctp ds =>
      refine .inr ⟨ent, w, ρ, S, r, ?_⟩
      rw [e1]
      intro v H1 w1 x1 g1 z hz
      cases z with
      | @ctp a vs ds h rr =>
        have hh : SqT X.K H1 a vs := SqT.monoF none_le h
        exact ⟨a, rfl, ⟨vs, hh⟩, p _ H1 w1 x1 g1 (itok_tup (SqT.monoF none_le h) rr) (by rw [rr.length]; exact hz a vs (.inr hh))⟩
    | _ => exact p.elim
def dInts (lo : Int) (n : Nat) : List D := (List.range n).map fun (k : Nat) => D.int (lo + k)
def iRange1 (f : AF) : IF := fun ρ S => match f ρ S with
  | .ok [.int n] S1 => if n.toNat < LIM ∧ -(2 ^ 62) ≤ n then .ok (dInts 0 n.toNat) S1 else .stuck
  | .ok _ _ => .stuck
  | .exn x S1 => .exn x S1
  | .stuck => .stuck
theorem dInts_len (lo : Int) {n : Nat} (h : n < LIM) : (dInts lo n).length ≤ sizeLine := by
  unfold dInts; rw [List.length_map, List.length_range]; exact Nat.le_of_lt (lim_size h)
theorem di_range1 {p pos : Pos} (ha : DA X W O [e] fa) (hm : X.mg "range" = none) (hg : Gl X "range" := by rfl) (hs : starEach [e] X.env = [(false, eval e X.env)] := by rfl) : DI X W O tg (.Call (.Name "range" p) [e] [] pos) (iRange1 fa) := by
  refine ⟨(pi_range1 hg hm ha.pa hs).imp ?_⟩
  rintro σ H Q ⟨ent, w, ρ, S, r, p⟩
  refine ⟨ent, w, ρ, S, r, ?_⟩
  unfold iRange1 at p
  cases e1 : fa ρ S with
  | stuck => rw [e1] at p; exact p
  | exn x S1 => rw [e1] at p; exact p
  | ok ds S1 =>
    rw [e1] at p
    intro vs H1 w1 x1 g1 z
    cases z with
    | nil => exact p.elim
    | @cons d v ds vs h t =>
      cases t with
      | cons _ _ => cases d <;> exact p.elim
      | nil =>
        cases h with
        | int n =>
          dsimp only at p
          split at p
          · rename_i hc
            have hl : n.toNat < 1000000 := hc.1
            refine ⟨n, rfl, hc.2, by omega, ?_⟩
            exact p _ H1 w1 x1 g1 itok_range (dInts_len 0 hc.1)
          · exact p.elim
        | _ => exact p.elim
end

/-! ### comprehensions -/
def wipeD (ρ : DEnv) : List Nat → DEnv
  | [] => ρ
  | v :: vs => (wipeD ρ vs).set v none
def lcD (g : GF) (fc fe : EF) : List D → List D → DEnv → Sto → Res
  | [], acc, _, S => .ok (.lst acc) S
  | x :: xs, acc, ρ, S => match g x ρ with
    | none => .stuck
    | some ρ1 => match fc ρ1 S with
      | .ok (.bl true) S1 => (match fe ρ1 S1 with
        | .ok d S2 => lcD g fc fe xs (acc ++ [d]) ρ S2
        | _ => .stuck)
      | .ok (.bl false) S1 => lcD g fc fe xs acc ρ S1
      | _ => .stuck
def eLc (vs : List Nat) (fi : IF) (g : GF) (fc fe : EF) : EF := fun ρ S => match fi ρ S with
  | .ok ds S1 => lcD g fc fe ds [] (wipeD ρ vs) S1
  | .exn x S1 => .exn x S1
  | .stuck => .stuck
def eYes : EF := fun _ S => .ok (.bl true) S
section
variable {K : PySem.W.Frag} {Z : Option XC} {ent : Ent Z} {O : List Nat} {w w' : Wit} {H H' : Hp} {σ : L2.St} {ρ : DEnv} {S S' : Sto}
theorem R.wipe1 (r : R K ent O w H σ ρ S) (i : Nat) (hi : i ∉ O) : R K ent O w H (σ.set i none) (ρ.set i none) S where
  gd := r.gd
  ext := r.ext
  kn := r.kn
  val := fun j d e n => by
    by_cases q : i = j
    · subst q
      have hl : i < ρ.length := by have := (List.getElem?_eq_some_iff.mp e).1; simpa using this
      rw [List.getElem?_set_self hl] at e; cases e
    · rw [List.getElem?_set_ne q] at e
      obtain ⟨v, h1, h2⟩ := r.val j d e n
      exact ⟨v, by rw [List.getElem?_set_ne q]; exact h1, h2⟩
  own := fun j d e n => by
    have q : i ≠ j := fun z => hi (z ▸ n)
    rw [List.getElem?_set_ne q] at e
    obtain ⟨v, h1, h2⟩ := r.own j d e n
    exact ⟨v, by rw [List.getElem?_set_ne q]; exact h1, h2⟩
  dis := fun j k a hj hk ej ek sj sk => by
    have q1 : i ≠ j := fun z => hi (z ▸ hj)
    have q2 : i ≠ k := fun z => hi (z ▸ hk)
    rw [List.getElem?_set_ne q1] at ej sj
    rw [List.getElem?_set_ne q2] at ek sk
    exact r.dis j k a hj hk ej ek sj sk
  len := by simpa using r.len
  exc := fun z hz hj hn => by
    have q : i ≠ z.i := fun e => hi (e ▸ hj)
    rw [List.getElem?_set_ne q] at hn ⊢
    exact r.exc z hz hj hn
  thk := r.thk
theorem R.wipe (r : R K ent O w H σ ρ S) : ∀ vs : List Nat, (∀ i, i ∈ vs → i ∉ O) → R K ent O w H (L2.wipe σ vs) (wipeD ρ vs) S
  | [], _ => r
  | v :: vs, h => (R.wipe r vs fun i hi => h i (List.mem_cons_of_mem _ hi)).wipe1 v (h v List.mem_cons_self)
/-- the state does not know of an own thing's change -/
def Pd (o : Option HO) : Prop := (∀ ps, o ≠ some (.tbl ps)) ∧ ∀ c q, o ≠ some (LamX.CodeO c q)
theorem _root_.DL.Own.pd {K : PySem.W.Frag} {w : Wit} {H : Hp} {d : D} {a : Addr} (h : Own K w H d a) : Pd (H a) := ⟨fun _ => h.notbl, fun _ _ => h.nocode⟩
theorem pd_lst {o : Option HO} {us : List V} (e : o = some (.lst us)) : Pd o := ⟨fun ps z => (by rw [e] at z; cases z), fun c q z => by rw [e] at z; exact codeO_ne' (fun f z => by cases z) (Option.some.inj z).symm⟩
theorem Gd.updO (g : Gd K w H S) {a : Addr} {o : HO} (h1 : w.F a = none) (h2 : ∀ n, n < w.m → w.phi n ≠ a) (h3 : Pd (H a)) : Gd K w (upd H a o) S :=
  ⟨g.len, fun b u e => by rw [upd_ne (fun q => by rw [q, h1] at e; cases e)]; exact g.sub b u e,
    fun n u e => (g.sto n u e).mono (.refl w) fun z hz => by rw [upd_ne (h2 n (by rw [g.len]; exact (List.getElem?_eq_some_iff.mp e).1))]; exact hz, g.inj, g.nofz, g.tab.to rfl g.tab.f fun b u e hu => by
      rw [upd_ne]
      · exact e
      · rintro rfl
        rcases hu with ⟨ps, rfl⟩ | ⟨c, q, rfl⟩
        · exact h3.1 ps e
        · exact h3.2 c q e⟩
theorem Ext.updO {w0 : Wit} {H0 : Hp} (x : Ext w0 H0 w H) {a : Addr} {o : HO} (h : Nb (H0 a)) : Ext w0 H0 w (upd H a o) :=
  ⟨x.le, x.new, fun b u e => (x.keep b u e).elim .inl fun z => by
      by_cases q : b = a
      · subst q
        rcases h with h | ⟨ps, h⟩
        · rw [h] at e; cases e
        · rw [h] at e; cases e; exact .inl (.inr ⟨_, rfl⟩)
      · exact .inr (by rw [upd_ne q]; exact z),
    fun b hb => by
      by_cases q : b = a
      · rw [q]; exact h
      · rw [upd_ne q] at hb; exact x.there b hb, fun b hb e => ⟨(x.fz b hb e).1, by rw [upd_ne (fun q => hb.nb (by rw [q]; exact h))]; exact (x.fz b hb e).2⟩⟩
/-- a thing that no slot holds has changed -/
theorem R.updL (r : R K ent O w H σ ρ S) {a : Addr} {o : HO} (hx : ∀ fs, H a ≠ some (.xd fs)) (h1 : w.F a = none) (h2 : ∀ n, n < w.m → w.phi n ≠ a) (h3 : Pd (H a)) (he : Nb (ent.H a)) (hn : ∀ n, n ∈ O → (∃ d, ρ[n]? = some (some d)) → σ[n]? ≠ some (some (.ref a))) : R K ent O w (L2.upd H a o) σ ρ S :=
  ⟨r.gd.updO h1 h2 h3, r.ext.updO he, r.kn, r.val, fun i d e n => by
    obtain ⟨b, s1, s2, s3⟩ := r.own i d e n
    have ne : b ≠ a := fun z => hn i n ⟨d, e⟩ (by rw [s1, z])
    refine ⟨b, s1, ⟨s2.1, s2.2.1, ?_⟩, s3⟩
    obtain ⟨_, _, s4⟩ := s2
    cases d with
    | lst ds => obtain ⟨vs, e, r⟩ := s4; exact ⟨vs, by rw [upd_ne ne]; exact e, r⟩
    | dct ds => obtain ⟨vs, e, r⟩ := s4; exact ⟨vs, by rw [upd_ne ne]; exact e, r⟩
    | dtt ds => obtain ⟨vs, e, r⟩ := s4; exact ⟨vs, by rw [upd_ne ne]; exact e, r⟩
    | dno ds => exact (upd_ne ne).trans s4
    | _ => exact s4.elim, r.dis, r.len, fun z hz hi hn' => by
      obtain ⟨u1, u2⟩ := r.exc z hz hi hn'
      refine ⟨u1, u2.keeps fun dd vs e => ?_⟩
      have ne : dd ≠ a := fun e' => hx vs (by rw [← e']; exact e)
      rw [upd_ne ne]
      exact e, r.thk⟩
end
structure TOwn (t : TG) (vs : List Nat) : Prop where
  ok : ∀ v σ H Q, t v σ H Q → t v σ H (fun σ' H' => L2.wipe σ' vs = L2.wipe σ vs ∧ Q σ' H')
theorem wipe_set (σ : L2.St) (i : Nat) (x : Option V) : ∀ vs : List Nat, i ∈ vs → L2.wipe (σ.set i x) vs = L2.wipe σ vs
  | [], h => absurd h (by simp)
  | v :: vs, h => by
    show (L2.wipe (σ.set i x) vs).set v none = (L2.wipe σ vs).set v none
    by_cases q : i ∈ vs
    · rw [wipe_set σ i x vs q]
    · have ev : i = v := (List.mem_cons.mp h).elim id fun z => absurd z q
      subst ev
      have : ∀ (us : List Nat), i ∉ us → L2.wipe (σ.set i x) us = (L2.wipe σ us).set i x := by
        intro us
        induction us with
        | nil => intro _; rfl
        | cons u us ih =>
          intro hu
          have h1 : i ≠ u := fun z => hu (by simp [z])
          show (L2.wipe (σ.set i x) us).set u none = ((L2.wipe σ us).set u none).set i x
          rw [ih fun z => hu (List.mem_cons_of_mem _ z), List.set_comm _ _ h1]
      rw [this vs q, List.set_set]
theorem wipe_get (σ : L2.St) (i : Nat) : ∀ vs : List Nat, (L2.wipe σ vs)[i]? = if i ∈ vs then (σ[i]?).map (fun _ => none) else σ[i]?
  | [] => by simp [L2.wipe]
  | v :: vs => by
    show ((L2.wipe σ vs).set v none)[i]? = _
    by_cases q : v = i
    · subst q
      rw [if_pos List.mem_cons_self, List.getElem?_set]
      by_cases hl : v < σ.length
      · rw [if_pos rfl, if_pos (by rw [L2.wipe_length]; exact hl), List.getElem?_eq_getElem hl]; rfl
      · rw [if_pos rfl, if_neg (by rw [L2.wipe_length]; exact hl), List.getElem?_eq_none (by omega)]; rfl
    · rw [List.getElem?_set_ne q, wipe_get σ i vs]
      by_cases h : i ∈ vs
      · rw [if_pos h, if_pos (List.mem_cons_of_mem _ h)]
      · rw [if_neg h, if_neg (fun z => (List.mem_cons.mp z).elim (fun y => q y.symm) h)]
theorem wipe_wipe (σ : L2.St) (vs : List Nat) : L2.wipe (L2.wipe σ vs) vs = L2.wipe σ vs := by
  apply List.ext_getElem?
  intro i
  rw [wipe_get, wipe_get]
  by_cases h : i ∈ vs
  · rw [if_pos h, if_pos h]; cases σ[i]? <;> rfl
  · rw [if_neg h]
theorem TOwn.wiped {t : TG} {vs : List Nat} (ho : TOwn t vs) {v : V} {σ : L2.St} {H : Hp} {Q : L2.St → Hp → Prop} (h : t v (L2.wipe σ vs) H Q) : t v (L2.wipe σ vs) H (fun σ' H' => L2.wipe σ' vs = L2.wipe σ vs ∧ Q σ' H') := by
  have := ho.ok _ _ _ _ h
  simpa only [wipe_wipe] using this
theorem wipeD_out {ρ : DEnv} {i : Nat} : ∀ {vs : List Nat}, i ∉ vs → (wipeD ρ vs)[i]? = ρ[i]?
  | [], _ => rfl
  | v :: vs, h => by
    show ((wipeD ρ vs).set v none)[i]? = _
    rw [List.getElem?_set_ne (fun z => h (by simp [z])), wipeD_out fun z => h (List.mem_cons_of_mem _ z)]
theorem town_name {i : Nat} {vs : List Nat} (h : i ∈ vs := by decide) : TOwn (gName i) vs := ⟨fun v σ H Q q => ⟨wipe_set σ i (some v) vs h, q⟩⟩
structure TOwns (t : TGs) (vs : List Nat) : Prop where
  ok : ∀ v σ H Q, t v σ H Q → t v σ H (fun σ' H' => L2.wipe σ' vs = L2.wipe σ vs ∧ Q σ' H')
theorem towns_nil {vs : List Nat} : TOwns gNil vs := ⟨fun v σ H Q ⟨e, q⟩ => ⟨e, rfl, q⟩⟩
theorem towns_cons {t : TG} {u : TGs} {vs : List Nat} (ht : TOwn t vs) (hu : TOwns u vs) (mono : ∀ v σ H (Q Q' : L2.St → Hp → Prop), (∀ σ' H', Q σ' H' → Q' σ' H') → t v σ H Q → t v σ H Q') (monos : ∀ v σ H (Q Q' : L2.St → Hp → Prop), (∀ σ' H', Q σ' H' → Q' σ' H') → u v σ H Q → u v σ H Q') : TOwns (gCons t u) vs :=
  ⟨fun v σ H Q ⟨x, r, e, q⟩ => ⟨x, r, e, mono _ _ _ _ _ (fun σ1 H1 ⟨h1, h2⟩ => monos _ _ _ _ _ (fun σ2 H2 ⟨h3, h4⟩ => ⟨h3.trans h1, h4⟩) (hu.ok r σ1 H1 Q h2)) (ht.ok x σ H _ q)⟩⟩
theorem mono_name {i : Nat} : ∀ v σ H (Q Q' : L2.St → Hp → Prop), (∀ σ' H', Q σ' H' → Q' σ' H') → gName i v σ H Q → gName i v σ H Q' := fun v σ H Q Q' h q => h _ _ q
theorem mono_nil : ∀ v σ H (Q Q' : L2.St → Hp → Prop), (∀ σ' H', Q σ' H' → Q' σ' H') → gNil v σ H Q → gNil v σ H Q' := fun v σ H Q Q' h ⟨e, q⟩ => ⟨e, h _ _ q⟩
theorem mono_cons {t : TG} {u : TGs} (mt : ∀ v σ H (Q Q' : L2.St → Hp → Prop), (∀ σ' H', Q σ' H' → Q' σ' H') → t v σ H Q → t v σ H Q') (mu : ∀ v σ H (Q Q' : L2.St → Hp → Prop), (∀ σ' H', Q σ' H' → Q' σ' H') → u v σ H Q → u v σ H Q') :
    ∀ v σ H (Q Q' : L2.St → Hp → Prop), (∀ σ' H', Q σ' H' → Q' σ' H') → gCons t u v σ H Q → gCons t u v σ H Q' := fun v σ H Q Q' h ⟨x, r, e, q⟩ => ⟨x, r, e, mt _ _ _ _ _ (fun σ1 H1 q1 => mu _ _ _ _ _ h q1) q⟩
theorem town_tup {K : PySem.W.Frag} {n : Nat} {u : TGs} {vs : List Nat} (h : TOwns u vs) : TOwn (gTup K n u) vs := ⟨fun v σ H Q ⟨a, xs, e, q1, q2, q⟩ => ⟨a, xs, e, q1, q2, h.ok _ _ _ _ q⟩⟩

/-- the tests of a comprehension -/
structure DCs (X : Cx) (W : WZ) (O : List Nat) (ifs : List Expr) (f : EF) : Prop where
  pts : PTs X ifs (rdT X.K W.no O f)
theorem dcs_nil {X : Cx} {W : WZ} {O : List Nat} : DCs X W O [] eYes := ⟨⟨fun pins s σ H Q I h => pts_nil.run pins s σ H Q I (by
  obtain ⟨ent, w, ρ, S, r, b, e, p⟩ := h
  cases e
  exact p H w (.refl _ _) r.gd)⟩⟩
theorem dcs_one {X : Cx} {W : WZ} {O : List Nat} {c : Expr} {f : EF} (h : DT X W.no O c f) : DCs X W O [c] f := ⟨pts_one h.pt⟩

theorem lc_of {K : PySem.W.Frag} {W : WZ} {O vs : List Nat} {fi : IF} {g : GF} {t : TG} {fc fe : EF} (hgo : GOk K O g t) (ho : TOwn t vs) (hO : ∀ i, i ∈ vs → i ∉ O) :
    ∀ σ H Q, rd K .f W O (eLc vs fi g fc fe) σ H Q → tLc (rdI K W O fi) t (rdT K W.no O fc) (rd K .e W.no O fe) vs σ H Q := by
  rintro σ H Q ⟨ent, w, ρ, S, r, p⟩
  refine ⟨ent, w, ρ, S, r, ?_⟩
  unfold eLc at p
  cases e1 : fi ρ S with
  | stuck => rw [e1] at p; exact p
  | exn x S1 => rw [e1] at p; exact p
  | ok ds S1 =>
    rw [e1] at p
    intro J H1 w1 x1 g1 hJ hz L hL
    have r1 := (r.later x1 g1).wipe vs hO
    -- the invariant: the list so far stands at L
    refine ⟨fun i m H => m = ds.length - i ∧ i ≤ ds.length ∧ ∃ w2 acc S2, Ext w1 H1 w2 H ∧ Gd K w2 H S2 ∧ Own K w2 H (.lst acc) L ∧ acc.length ≤ i ∧ Post K .f w1 H1 W σ (lcD g fc fe (ds.drop i) acc (wipeD ρ vs) S2) Q, ⟨ds.length, by simp, Nat.zero_le _, w1, [], S1, Ext.newO w1 hL, g1.newO hL, ⟨g1.noneF hL, g1.nophi hL, [], upd_same, .nil⟩, Nat.le_refl _, by simpa using Post.later (r := lcD g fc fe ds [] (wipeD ρ vs) S1) x1 p⟩, ?_⟩
    rintro i m H2 ⟨rfl, hi, w2, acc, S2, x2, g2, o2, hl2, p2⟩
    obtain ⟨j1, j2⟩ := hJ w2 H2 S2 i x2.le g2
    by_cases hlt : i < ds.length
    · obtain ⟨jg, jy⟩ := j1 ds[i] (List.getElem?_eq_getElem hlt)
      refine .inr ⟨jg, fun H' => ∃ w' acc' S', Ext w1 H1 w' H' ∧ Gd K w' H' S' ∧ Own K w' H' (.lst acc') L ∧ acc'.length ≤ i + 1 ∧ Post K .f w1 H1 W σ (lcD g fc fe (ds.drop (i + 1)) acc' (wipeD ρ vs) S') Q,
        fun H' ⟨w', acc', S', q1, q2, q3, q4, q5⟩ => ⟨ds.length - (i + 1), by omega, rfl, hlt, w', acc', S', q1, q2, q3, q4, q5⟩, fun x H3 y => ?_⟩
      obtain ⟨w3, x3, g3, z3⟩ := jy x H3 y
      rw [List.drop_eq_getElem_cons hlt] at p2
      unfold lcD at p2
      have r3 : R K ent O w3 H3 (L2.wipe σ vs) (wipeD ρ vs) S2 := r1.later (x2.trans x3) g3
      cases e2 : g ds[i] (wipeD ρ vs) with
      | none => rw [e2] at p2; exact p2.elim
      | some ρ3 =>
        rw [e2] at p2
        dsimp only at p2
        refine ho.wiped (hgo.ok r3 z3 e2 fun σ3 s3' r3' => ?_)
        refine ⟨ent, w3, ρ3, S2, r3', ?_⟩
        have o3 : Own K w3 H3 (.lst acc) L := o2.ext x3
        cases e3 : fc ρ3 S2 with
        | stuck => rw [e3] at p2; exact p2.elim
        | exn y S3 => rw [e3] at p2; exact p2.elim
        | ok c S3 =>
          rw [e3] at p2
          cases c with
          | bl b =>
            refine ⟨b, rfl, fun H4 w4 x4 g4 => ?_⟩
            cases b with
            | false =>
              rw [if_neg Bool.false_ne_true]
              exact ⟨w4, acc, S3, x2.trans (x3.trans x4), g4, o3.ext x4, Nat.le_succ_of_le hl2, p2⟩
            | true =>
              rw [if_pos rfl]
              dsimp only at p2
              refine ⟨ent, w4, ρ3, S3, r3'.later x4 g4, ?_⟩
              cases e4 : fe ρ3 S3 with
              | stuck => rw [e4] at p2; exact p2.elim
              | exn y S4 => rw [e4] at p2; exact p2.elim
              | ok d S4 =>
                rw [e4] at p2
                intro v H5 w5 x5 g5 z5
                have o5 : Own K w5 H5 (.lst acc) L := (o3.ext x4).ext x5
                obtain ⟨f1, f2, us, f3, f4⟩ := o5
                refine ⟨us, f3, ?_, w5, acc ++ [d], S4, (x2.trans (x3.trans (x4.trans x5))).updO hL, g5.updO f1 f2 (pd_lst f3), ⟨f1, f2, _, upd_same, f4.append (.cons z5 .nil)⟩, by simp; omega, p2⟩
                rw [← f4.length]; omega
          | _ => exact p2.elim
    · have ei : i = ds.length := by omega
      subst ei
      refine .inl ⟨j2 rfl, ?_⟩
      rw [List.drop_length] at p2
      exact p2 _ H2 w2 x2 g2 ⟨L, rfl, hL, o2⟩
section
variable {X : Cx} {W : WZ} {O : List Nat} {elt tg iter : Expr} {ifs : List Expr} {scope : Scope} {own : List (Str × Nat)} {pos : Pos} {fi : IF} {g : GF} {t : TG} {fc fe : EF}
theorem de_lc (hN : X.N.Nodup) (ok : BlkOk X.N X.env.scope scope own) (hi : DI X W O tg iter fi)
    (hgo : GOk X.K O g t) (hg : ∀ (s : Shared) (H : Hp) (C : Addr) (cl : List (Str × Addr)) (fp : List Addr), PG (X.blk s H scope (compEnvC scope cl C X.env) fp) tg t) (ho : TOwn t (own.map (·.2)))
    (ht : ∀ (s : Shared) (H : Hp) (C : Addr) (cl : List (Str × Addr)) (fp : List Addr), DCs (X.blk s H scope (compEnvC scope cl C X.env) fp) W O ifs fc)
    (he : ∀ (s : Shared) (H : Hp) (C : Addr) (cl : List (Str × Addr)) (fp : List Addr), DE .e (X.blk s H scope (compEnvC scope cl C X.env) fp) W.no O elt fe)
    (hO : ∀ i, i ∈ own.map (·.2) → i ∉ O := by decide) (hc : X.calm = true := by rfl) (hs : ∀ x, foldedSetIterable iter X.env x = pure x := by intro _; rfl) :
    DE .f X W O (.ListComp elt [⟨tg, iter, ifs, 0⟩] scope pos) (eLc (own.map (·.2)) fi g fc fe) :=
  ⟨(pe_lc (pos := pos) (tt := rdT X.K W.no O fc) (te := rd X.K .e W.no O fe) hc hN hi.pi ok hg (fun s H C cl fp => (ht s H C cl fp).pts) (fun s H C cl fp => (he s H C cl fp).pe) hs).imp (lc_of hgo ho hO)⟩
/-- name = [..] on one line -/
theorem ps_lcs {i : Nat} {y : Str} {py spos : Pos} (hN : X.N.Nodup) (ok : BlkOk X.N X.env.scope scope own) (hi : DI X W O tg iter fi)
    (hg : ∀ (s : Shared) (H : Hp) (C : Addr) (cl : List (Str × Addr)) (fp : List Addr), PG (X.blk s H scope (compEnvC scope cl C X.env) fp) tg t)
    (ht : ∀ (s : Shared) (H : Hp) (C : Addr) (cl : List (Str × Addr)) (fp : List Addr), DCs (X.blk s H scope (compEnvC scope cl C X.env) fp) W O ifs fc)
    (he : ∀ (s : Shared) (H : Hp) (C : Addr) (cl : List (Str × Addr)) (fp : List Addr), DE .e (X.blk s H scope (compEnvC scope cl C X.env) fp) W.no O elt fe)
    (hy : X.N[i]? = some y) (hyl : X.env.scope.names.lookup y = some .local) (hsw : swapsWith (.ListComp elt [⟨tg, iter, ifs, 0⟩] scope pos) (some (.Name y py)) spos.line X.env = pure true) (hc : X.calm = true) (hs : ∀ x, foldedSetIterable iter X.env x = pure x) :
    PS X (.Assign [.Name y py] (.ListComp elt [⟨tg, iter, ifs, 0⟩] scope pos) spos) (tAsg (tLc (rdI X.K W O fi) t (rdT X.K W.no O fc) (rd X.K .e W.no O fe) (own.map (·.2))) (gName i)) :=
  ps_setLc (tt := rdT X.K W.no O fc) (te := rd X.K .e W.no O fe) hc hN hy hyl hsw hi.pi ok hg (fun s H C cl fp => (ht s H C cl fp).pts) (fun s H C cl fp => (he s H C cl fp).pe) hs
theorem ds_lcOwn (i : Nat) {L : Lp} {y : Str} {py spos : Pos} (hN : X.N.Nodup) (ok : BlkOk X.N X.env.scope scope own) (hi : DI X W O tg iter fi)
    (hgo : GOk X.K O g t) (hg : ∀ (s : Shared) (H : Hp) (C : Addr) (cl : List (Str × Addr)) (fp : List Addr), PG (X.blk s H scope (compEnvC scope cl C X.env) fp) tg t) (ho : TOwn t (own.map (·.2)))
    (ht : ∀ (s : Shared) (H : Hp) (C : Addr) (cl : List (Str × Addr)) (fp : List Addr), DCs (X.blk s H scope (compEnvC scope cl C X.env) fp) W O ifs fc)
    (he : ∀ (s : Shared) (H : Hp) (C : Addr) (cl : List (Str × Addr)) (fp : List Addr), DE .e (X.blk s H scope (compEnvC scope cl C X.env) fp) W.no O elt fe)
    (hsw : swapsWith (.ListComp elt [⟨tg, iter, ifs, 0⟩] scope pos) (some (.Name y py)) spos.line X.env = pure true) (hyl : X.env.scope.names.lookup y = some .local := by rfl)
    (hO : ∀ i, i ∈ own.map (·.2) → i ∉ O := by decide) (hiO : i ∉ O := by decide) (hy : X.N[i]? = some y := by rfl) (hc : X.calm = true := by rfl) (hs : ∀ x, foldedSetIterable iter X.env x = pure x := by intro _; rfl) :
    DS X W L O (.Assign [.Name y py] (.ListComp elt [⟨tg, iter, ifs, 0⟩] scope pos) spos) (i :: O) (sSet i (eLc (own.map (·.2)) fi g fc fe)) :=
  ⟨(ps_lcs hN ok hi hg ht he hy hyl hsw hc hs).imp fun En σ H h => lc_of hgo ho hO σ H _ (setOwn_of hiO En σ H h)⟩
end
theorem setF_of {K : PySem.W.Frag} {L : Lp} {W : WZ} {O : List Nat} {fe : EF} {i : Nat} (hO : i ∉ O) : ∀ En σ H, rdS K L W O O (sSet i fe) En σ H → tAsg (rd K .f W O fe) (gName i) En σ H := by
  rintro En σ H ⟨ent, w, ρ, S, r, p⟩
  refine ⟨ent, w, ρ, S, r, SPost.bind r p ?_⟩
  rintro d S1 v H1 w1 x g1 ⟨a, rfl, n, o⟩ q
  have r2 : R K ent O (w1.fix H1 a) H1 σ ρ S1 := r.later (x.fix o.1 n) (g1.fix o.1 o.2.1 fun _ => o.notbl)
  exact q _ H1 _ (r2.put hO o.rep)
section
variable {X : Cx} {W : WZ} {O : List Nat} {elt tg iter : Expr} {ifs : List Expr} {scope : Scope} {own : List (Str × Nat)} {pos : Pos} {fi : IF} {g : GF} {t : TG} {fc fe : EF}
theorem ds_lcSet (i : Nat) {L : Lp} {y : Str} {py spos : Pos} (hN : X.N.Nodup) (ok : BlkOk X.N X.env.scope scope own) (hi : DI X W O tg iter fi)
    (hgo : GOk X.K O g t) (hg : ∀ (s : Shared) (H : Hp) (C : Addr) (cl : List (Str × Addr)) (fp : List Addr), PG (X.blk s H scope (compEnvC scope cl C X.env) fp) tg t) (ho : TOwn t (own.map (·.2)))
    (ht : ∀ (s : Shared) (H : Hp) (C : Addr) (cl : List (Str × Addr)) (fp : List Addr), DCs (X.blk s H scope (compEnvC scope cl C X.env) fp) W O ifs fc)
    (he : ∀ (s : Shared) (H : Hp) (C : Addr) (cl : List (Str × Addr)) (fp : List Addr), DE .e (X.blk s H scope (compEnvC scope cl C X.env) fp) W.no O elt fe)
    (hsw : swapsWith (.ListComp elt [⟨tg, iter, ifs, 0⟩] scope pos) (some (.Name y py)) spos.line X.env = pure true) (hyl : X.env.scope.names.lookup y = some .local := by rfl)
    (hO : ∀ i, i ∈ own.map (·.2) → i ∉ O := by decide) (hiO : i ∉ O := by decide) (hy : X.N[i]? = some y := by rfl) (hc : X.calm = true := by rfl) (hs : ∀ x, foldedSetIterable iter X.env x = pure x := by intro _; rfl) :
    DS X W L O (.Assign [.Name y py] (.ListComp elt [⟨tg, iter, ifs, 0⟩] scope pos) spos) O (sSet i (eLc (own.map (·.2)) fi g fc fe)) :=
  ⟨(ps_lcs hN ok hi hg ht he hy hyl hsw hc hs).imp fun En σ H h => lc_of hgo ho hO σ H _ (setF_of hiO En σ H h)⟩
end

/-! ### two clauses -/
def lcDs (g : GF) (fc fe : EF) : List D → List D → DEnv → Sto → Res
  | [], acc, _, S => .ok (.lst acc) S
  | x :: xs, acc, ρ, S => match g x ρ with
    | none => .stuck
    | some ρ1 => match fc ρ1 S with
      | .ok (.bl true) S1 => (match fe ρ1 S1 with
        | .ok d S2 => if acc.length < LIM then lcDs g fc fe xs (acc ++ [d]) ρ S2 else .stuck
        | _ => .stuck)
      | .ok (.bl false) S1 => lcDs g fc fe xs acc ρ S1
      | _ => .stuck
def lcD2 (g : GF) (fc : EF) (fi1 : IF) (vs1 : List Nat) (g1 : GF) (fc1 fe : EF) : List D → List D → DEnv → Sto → Res
  | [], acc, _, S => .ok (.lst acc) S
  | x :: xs, acc, ρ, S => match g x ρ with
    | none => .stuck
    | some ρ1 => match fc ρ1 S with
      | .ok (.bl true) S1 => (match fi1 ρ1 S1 with
        | .ok ds S2 => (match lcDs g1 fc1 fe ds acc (wipeD ρ1 vs1) S2 with
          | .ok (.lst acc') S3 => lcD2 g fc fi1 vs1 g1 fc1 fe xs acc' ρ S3
          | _ => .stuck)
        | _ => .stuck)
      | .ok (.bl false) S1 => lcD2 g fc fi1 vs1 g1 fc1 fe xs acc ρ S1
      | _ => .stuck
def eLc2 (vs vs1 : List Nat) (fi : IF) (g : GF) (fc : EF) (fi1 : IF) (g1 : GF) (fc1 fe : EF) : EF := fun ρ S => match fi ρ S with
  | .ok ds S1 => lcD2 g fc fi1 vs1 g1 fc1 fe ds [] (wipeD ρ vs) S1
  | .exn x S1 => .exn x S1
  | .stuck => .stuck
theorem lc2_of {K : PySem.W.Frag} {W : WZ} {O vs vs1 : List Nat} {fi fi1 : IF} {g gg : GF} {t t1 : TG} {fc fc1 fe : EF} (hgo : GOk K O g t) (ho : TOwn t vs) (hgo1 : GOk K O gg t1) (ho1 : TOwn t1 vs1) (hO : ∀ i, i ∈ vs → i ∉ O) (hO1 : ∀ i, i ∈ vs1 → i ∉ O) :
    ∀ σ H Q, rd K .f W O (eLc2 vs vs1 fi g fc fi1 gg fc1 fe) σ H Q → tLc2 (rdI K W O fi) t (rdT K W.no O fc) (rdI K W.no O fi1) t1 (rdT K W.no O fc1) (rd K .e W.no O fe) vs vs1 σ H Q := by
  rintro σ H Q ⟨ent, w, ρ, S, r, p⟩
  refine ⟨ent, w, ρ, S, r, ?_⟩
  unfold eLc2 at p
  cases e1 : fi ρ S with
  | stuck => rw [e1] at p; exact p
  | exn x S1 => rw [e1] at p; exact p
  | ok ds S1 =>
    rw [e1] at p
    intro J H1 w1 x1 g1 hJ hz L hL
    have r1 := (r.later x1 g1).wipe vs hO
    refine ⟨fun i m H => m = ds.length - i ∧ i ≤ ds.length ∧ ∃ w2 acc S2, Ext w1 H1 w2 H ∧ Gd K w2 H S2 ∧ Own K w2 H (.lst acc) L ∧ Post K .f w1 H1 W σ (lcD2 g fc fi1 vs1 gg fc1 fe (ds.drop i) acc (wipeD ρ vs) S2) Q, ⟨ds.length, by simp, Nat.zero_le _, w1, [], S1, Ext.newO w1 hL, g1.newO hL, ⟨g1.noneF hL, g1.nophi hL, [], upd_same, .nil⟩, by simpa using Post.later (r := lcD2 g fc fi1 vs1 gg fc1 fe ds [] (wipeD ρ vs) S1) x1 p⟩, ?_⟩
    rintro i m H2 ⟨rfl, hi, w2, acc, S2, x2, g2, o2, p2⟩
    obtain ⟨j1, j2⟩ := hJ w2 H2 S2 i x2.le g2
    by_cases hlt : i < ds.length
    · obtain ⟨jg, jy⟩ := j1 ds[i] (List.getElem?_eq_getElem hlt)
      refine .inr ⟨jg, fun H' => ∃ w' acc' S', Ext w1 H1 w' H' ∧ Gd K w' H' S' ∧ Own K w' H' (.lst acc') L ∧ Post K .f w1 H1 W σ (lcD2 g fc fi1 vs1 gg fc1 fe (ds.drop (i + 1)) acc' (wipeD ρ vs) S') Q,
        fun H' ⟨w', acc', S', q1, q2, q3, q5⟩ => ⟨ds.length - (i + 1), by omega, rfl, hlt, w', acc', S', q1, q2, q3, q5⟩, fun x H3 y => ?_⟩
      obtain ⟨w3, x3, g3, z3⟩ := jy x H3 y
      rw [List.drop_eq_getElem_cons hlt] at p2
      unfold lcD2 at p2
      have r3 : R K ent O w3 H3 (L2.wipe σ vs) (wipeD ρ vs) S2 := r1.later (x2.trans x3) g3
      cases e2 : g ds[i] (wipeD ρ vs) with
      | none => rw [e2] at p2; exact p2.elim
      | some ρ3 =>
        rw [e2] at p2
        dsimp only at p2
        refine ho.wiped (hgo.ok r3 z3 e2 fun σ3 s3' r3' => ?_)
        refine ⟨ent, w3, ρ3, S2, r3', ?_⟩
        have o3 : Own K w3 H3 (.lst acc) L := o2.ext x3
        cases e3 : fc ρ3 S2 with
        | stuck => rw [e3] at p2; exact p2.elim
        | exn y S3 => rw [e3] at p2; exact p2.elim
        | ok c S3 =>
          rw [e3] at p2
          cases c with
          | bl b =>
            refine ⟨b, rfl, fun H4 w4 x4 g4 => ?_⟩
            cases b with
            | false =>
              rw [if_neg Bool.false_ne_true]
              exact ⟨w4, acc, S3, x2.trans (x3.trans x4), g4, o3.ext x4, p2⟩
            | true =>
              rw [if_pos rfl]
              dsimp only at p2
              refine ⟨ent, w4, ρ3, S3, r3'.later x4 g4, ?_⟩
              cases e4 : fi1 ρ3 S3 with
              | stuck => rw [e4] at p2; exact p2.elim
              | exn y S4 => rw [e4] at p2; exact p2.elim
              | ok es S4 =>
                rw [e4] at p2
                intro J1 H5 w5 x5 g5 hJ1 hz1
                have o5 : Own K w5 H5 (.lst acc) L := (o3.ext x4).ext x5
                have r5 := ((r3'.later x4 g4).later x5 g5).wipe vs1 hO1
                -- the inner loop
                have entL : Nb (ent.H L) := by
                  exact (r.ext.trans x1).there L (.inl hL)
                have nL : ∀ n, n ∈ O → (∃ d, (wipeD ρ3 vs1)[n]? = some (some d)) → (L2.wipe σ3 vs1)[n]? ≠ some (some (.ref L)) := fun n hn ⟨d, hd⟩ hs => by
                  obtain ⟨b, s1, s2, _⟩ := r5.own n d hd hn
                  rw [hs] at s1; cases s1
                  have s3 : (L2.wipe σ3 vs1)[n]? = σ3[n]? := by rw [wipe_get, if_neg (fun z => hO1 n z hn)]
                  have s4 : (L2.wipe σ vs)[n]? = σ[n]? := by rw [wipe_get, if_neg (fun z => hO n z hn)]
                  have s5 : σ[n]? = some (some (.ref L)) := by rw [← s4, ← s3' n hn, ← s3]; exact hs
                  obtain ⟨d0, hd0⟩ : ∃ d, ρ[n]? = some (some d) := ⟨d, by
                    rw [wipeD_out (fun z => hO1 n z hn), hgo.env _ _ _ e2 n hn, wipeD_out (fun z => hO n z hn)] at hd
                    exact hd⟩
                  obtain ⟨b, u1, u2, _⟩ := (r.later x1 g1).own n d0 hd0 hn
                  rw [s5] at u1; cases u1
                  exact u2.there hL
                refine ⟨fun j k H => k = es.length - j ∧ j ≤ es.length ∧ ∃ w6 acc6 S6, Ext w1 H1 w6 H ∧ Own K w6 H (.lst acc6) L ∧ R K ent O w6 H (L2.wipe σ3 vs1) (wipeD ρ3 vs1) S6 ∧ Le w5 w6 ∧
                    Post K .f w1 H1 W σ (match lcDs gg fc1 fe (es.drop j) acc6 (wipeD ρ3 vs1) S6 with
                      | .ok (.lst acc') S3 => lcD2 g fc fi1 vs1 gg fc1 fe (ds.drop (i + 1)) acc' (wipeD ρ vs) S3
                      | _ => .stuck) Q, ⟨es.length, by simp, Nat.zero_le _, w5, acc, S4, x2.trans (x3.trans (x4.trans x5)), o5, r5, .refl _, by simpa using p2⟩, ?_⟩
                rintro j k H6 ⟨rfl, hj, w6, acc6, S6, x6, o6, r6, l6, p6⟩
                obtain ⟨k1, k2⟩ := hJ1 w6 H6 S6 j l6 r6.gd
                by_cases hlj : j < es.length
                · obtain ⟨kg, ky⟩ := k1 es[j] (List.getElem?_eq_getElem hlj)
                  refine .inr ⟨kg, fun H' => ∃ w6 acc6 S6, Ext w1 H1 w6 H' ∧ Own K w6 H' (.lst acc6) L ∧ R K ent O w6 H' (L2.wipe σ3 vs1) (wipeD ρ3 vs1) S6 ∧ Le w5 w6 ∧
                    Post K .f w1 H1 W σ (match lcDs gg fc1 fe (es.drop (j + 1)) acc6 (wipeD ρ3 vs1) S6 with
                      | .ok (.lst acc') S3 => lcD2 g fc fi1 vs1 gg fc1 fe (ds.drop (i + 1)) acc' (wipeD ρ vs) S3
                      | _ => .stuck) Q, fun H' ⟨w', acc', S', q1, q2, q3, q4, q5⟩ => ⟨es.length - (j + 1), by omega, rfl, hlj, w', acc', S', q1, q2, q3, q4, q5⟩, fun x' H7 y' => ?_⟩
                  obtain ⟨w7, x7, g7, z7⟩ := ky x' H7 y'
                  rw [List.drop_eq_getElem_cons hlj] at p6
                  unfold lcDs at p6
                  cases e5 : gg es[j] (wipeD ρ3 vs1) with
                  | none => rw [e5] at p6; exact p6.elim
                  | some ρ7 =>
                    rw [e5] at p6
                    dsimp only at p6
                    refine ho1.wiped (hgo1.ok (r6.later x7 g7) z7 e5 fun σ7 _ r7 => ?_)
                    refine ⟨ent, w7, ρ7, S6, r7, ?_⟩
                    cases e6 : fc1 ρ7 S6 with
                    | stuck => rw [e6] at p6; exact p6.elim
                    | exn y S7 => rw [e6] at p6; exact p6.elim
                    | ok c S7 =>
                      rw [e6] at p6
                      cases c with
                      | bl b =>
                        refine ⟨b, rfl, fun H8 w8 x8 g8 => ?_⟩
                        cases b with
                        | false =>
                          rw [if_neg Bool.false_ne_true]
                          exact ⟨w8, acc6, S7, x6.trans (x7.trans x8), (o6.ext x7).ext x8, (r6.later x7 g7).later x8 g8, l6.trans (x7.le.trans x8.le), p6⟩
                        | true =>
                          rw [if_pos rfl]
                          dsimp only at p6
                          refine ⟨ent, w8, ρ7, S7, r7.later x8 g8, ?_⟩
                          cases e7 : fe ρ7 S7 with
                          | stuck => rw [e7] at p6; exact p6.elim
                          | exn y S8 => rw [e7] at p6; exact p6.elim
                          | ok d S8 =>
                            rw [e7] at p6
                            dsimp only at p6
                            intro v H9 w9 x9 g9 z9
                            have o9 : Own K w9 H9 (.lst acc6) L := ((o6.ext x7).ext x8).ext x9
                            obtain ⟨f1, f2, us, f3, f4⟩ := o9
                            by_cases hlim : acc6.length < LIM
                            · rw [if_pos hlim] at p6
                              refine ⟨us, f3, by rw [← f4.length]; exact lim_size hlim, w9, acc6 ++ [d], S8, (x6.trans (x7.trans (x8.trans x9))).updO hL, ⟨f1, f2, _, upd_same, f4.append (.cons z9 .nil)⟩, ?_, l6.trans (x7.le.trans (x8.le.trans x9.le)), p6⟩
                              exact (((r6.later x7 g7).later x8 g8).later x9 g9).updL (fun fs z => by rw [f3] at z; cases z) f1 f2 (pd_lst f3) entL nL
                            · rw [if_neg hlim] at p6; exact p6.elim
                      | _ => exact p6.elim
                · have ej : j = es.length := by omega
                  subst ej
                  refine .inl ⟨k2 rfl, ?_⟩
                  rw [List.drop_length] at p6
                  exact ⟨w6, acc6, S6, x6, r6.gd, o6, p6⟩
          | _ => exact p2.elim
    · have ei : i = ds.length := by omega
      subst ei
      refine .inl ⟨j2 rfl, ?_⟩
      rw [List.drop_length] at p2
      exact p2 _ H2 w2 x2 g2 ⟨L, rfl, hL, o2⟩
end DL

/-! while; defs and calls; own lists and dicts changed -/
namespace DL
open PySem PySem.Spec PyProof.Rows L2

/-! ### while -/
def whileD (fc : EF) (fb : SF) : Nat → DEnv → Sto → SRes
  | 0, _, _ => .stuck
  | n + 1, ρ, S => sBind (fc ρ S) ρ fun d S1 => match d with
    | .bl true => (match fb ρ S1 with
      | .nx ρ2 S2 => whileD fc fb n ρ2 S2
      | .ct ρ2 S2 => whileD fc fb n ρ2 S2
      | .bk ρ2 S2 => .nx ρ2 S2
      | r => r)
    | .bl false => .nx ρ S1
    | _ => .stuck
def FUEL : Nat := 1000000
def sWhile (fc : EF) (fb : SF) : SF := fun ρ S => whileD fc fb FUEL ρ S
section
variable {X : Cx} {W : WZ} {L : Lp} {O : List Nat} {c : Expr} {body : List Stmt} {fc : EF} {fb : SF} {pos : Pos}
theorem ds_while (hp : PassesOwn (model X.prog X.w) X.A X.env X.xe) (hc : DT X W O c fc) (hb : DSs X W ⟨O, O⟩ O body O fb) : DS X W L O (.While c body [] pos) O (sWhile fc fb) := by
  refine ⟨(ps_while hp hc.pt hb.ps).imp ?_⟩
  rintro En σ H ⟨ent, w, ρ, S, r, p⟩
  refine ⟨fun m σ H => ∃ w ρ S, R X.K ent O w H σ ρ S ∧ SPost X.K ent L W O (whileD fc fb m ρ S) En, ⟨FUEL, w, ρ, S, r, p⟩, ?_⟩
  rintro m σ2 H2 ⟨w2, ρ2, S2, r2, p2⟩
  cases m with
  | zero => exact p2.elim
  | succ m =>
    unfold whileD at p2
    refine ⟨ent, w2, ρ2, S2, r2, SPost.bindT r2 p2 ?_ fun b S3 H3 w3 x3 g3 q => ?_⟩
    · intro d S3 h
      cases d with
      | bl b => exact ⟨b, rfl⟩
      | _ => exact absurd rfl h
    · cases b with
      | false =>
        rw [if_neg Bool.false_ne_true]
        exact q w3 H3 σ2 (r2.later x3 g3)
      | true =>
        rw [if_pos rfl]
        refine ⟨fun σ' H' => ∃ w ρ S, R X.K ent O w H' σ' ρ S ∧ SPost X.K ent L W O (whileD fc fb m ρ S) En, fun σ' H' h => ⟨m, Nat.lt_succ_self m, h⟩, ent, w3, ρ2, S3, r2.later x3 g3, ?_⟩
        have q : SPost X.K ent L W O (match fb ρ2 S3 with
          | .nx ρ2 S2 => whileD fc fb m ρ2 S2
          | .ct ρ2 S2 => whileD fc fb m ρ2 S2
          | .bk ρ2 S2 => .nx ρ2 S2
          | r => r) En := q
        cases e : fb ρ2 S3 with
        | nx ρ4 S4 => rw [e] at q; exact fun w4 H4 σ4 r4 => ⟨w4, ρ4, S4, r4, q⟩
        | ct ρ4 S4 => rw [e] at q; exact fun w4 H4 σ4 r4 => ⟨w4, ρ4, S4, r4, q⟩
        | bk ρ4 S4 => rw [e] at q; exact q
        | rt d S4 => rw [e] at q; exact q
        | exn x ρ4 S4 => rw [e] at q; exact q
        | stuck => rw [e] at q; exact q
end

/-! ### defs -/
def PostF (K : PySem.W.Frag) (w : Wit) (H : Hp) (r : Res) (Q : VK) (E : XK) : Prop := match r with
  | .ok d S => ∀ v H' w', Ext w H w' H' → Gd K w' H' S → Rep K w' d v → Q v H'
  | .exn x S => ∀ cls dx H' w', Ext w H w' H' → Gd K w' H' S → RepX K w' H' x cls dx → E cls dx H'
  | .stuck => False
def spD (K : PySem.W.Frag) (n : Nat) (ff : FF) : Sp := fun vs H Q E => vs.length = n ∧ ∃ w S ds, Gd K w H S ∧ Reps K w ds vs ∧ PostF K w H (ff ds S) Q E
def fnD (n : Nat) (fb : SF) : FF := fun ds S => match fb (ds.map some ++ List.replicate (n - ds.length) none) S with
  | .rt d S1 => .ok d S1
  | .nx _ S1 => .ok .non S1
  | .exn x _ S1 => .exn x S1
  | _ => .stuck
abbrev WE (E : XK) : WZ := ⟨fun cls d _ H => E cls d H, none, .e⟩
theorem fn_read {K : PySem.W.Frag} {N : List Str} {n : Nat} {fb : SF} {O' : List Nat} {vs : List V} {H : Hp} {Q : VK} {E : XK} (hn : n ≤ N.length) (h : spD K n (fnD N.length fb) vs H Q E) :
    rdS K ⟨[], []⟩ (WE E) [] O' fb { nx := fun _ H' => Q .non H', rt := Q } (L2.start N vs) H := by
  obtain ⟨hl, w, S, ds, g, rs, p⟩ := h
  have hd := rs.length
  refine ⟨(⟨w, H, w⟩ : Ent none), w, ds.map some ++ List.replicate (N.length - ds.length) none, S, ⟨g, .refl _ _, .refl _, fun i d e _ => ?_, fun i d e n => absurd n (by simp), fun i j a hi => absurd hi (by simp), ?_, fun z hz => (by cases hz), fun z hz => by cases hz⟩, ?_⟩
  · by_cases hi : i < ds.length
    · rw [List.getElem?_append_left (by simpa using hi), List.getElem?_map] at e
      cases e2 : ds[i]? with
      | none => rw [e2] at e; cases e
      | some d' =>
        rw [e2] at e; cases e
        obtain ⟨v, ev, rv⟩ := rs.get e2
        refine ⟨v, ?_, rv⟩
        unfold L2.start
        rw [List.getElem?_append_left (by rw [List.length_map, ← hd]; exact hi), List.getElem?_map, ev]; rfl
    · rw [List.getElem?_append_right (by simpa using hi)] at e
      have := List.mem_of_getElem? e
      rw [List.mem_replicate] at this
      exact absurd this.2 (by simp)
  · unfold L2.start; simp; omega
  · unfold fnD at p
    cases e : fb (ds.map some ++ List.replicate (N.length - ds.length) none) S with
    | nx ρ S1 => rw [e] at p; exact fun w1 H1 σ r => p .non H1 w1 r.ext r.gd .non
    | rt d S1 => rw [e] at p; exact fun v H1 w1 x g1 z => p v H1 w1 x g1 z
    | exn x ρ S1 => rw [e] at p; exact fun w1 H1 σ cls dx r h => p cls dx H1 w1 r.ext r.gd h
    | bk ρ S1 => rw [e] at p; exact p.elim
    | ct ρ S1 => rw [e] at p; exact p.elim
    | stuck => rw [e] at p; exact p.elim
section
variable {P : Program} {w : World} {K : PySem.W.Frag} {mg : Str → Option Value} {base : Heap} {x qual : Str} {params : Arguments} {body : List Stmt} {scope : Scope} {dvs : List V} {kws : List (Str × V)} {f : Addr} {fd : FuncData}
/-- a def keeps what its body's reading says -/
theorem fn_dl {N ps : List Str} {k : Nat} {fb : SF} {O' : List Nat} (F : FunD K x qual params body scope dvs kws f fd) (S : FnScope N ps scope) (hn : ps.length ≤ N.length)
    (hbody : ∀ (cdv : Value) (A : Around) (outer : List PySem.Env) (s : Shared) (H : Hp) (E : XK), Room k (A.deeper (envOfC qual scope s.heap.objs.size f cdv)) → DSs (cxOf (L2.CX P w) P w K mg base N qual scope f cdv A outer s H E) (WE E) ⟨[], []⟩ [] body O' fb) :
    FnOk P w K mg base (L2.CX P w) (k + 1) f fd ps (spD K ps.length (fnD N.length fb)) := by
  refine F.ok S (fun vs H Q E h => h.1) fun cdv A outer s H vs Q E hr h => ?_
  exact ⟨_, (hbody cdv A outer s H E hr).ps, fn_read hn h⟩
end
def eCall (ff : FF) (fa : AF) : EF := fun ρ S => (fa ρ S).bind fun ds S1 => ff ds S1
section
variable {X : Cx} {W : WZ} {O : List Nat} {k : Nat} {f : Addr} {fd : FuncData} {ps : List Str} {ff : FF} {x : Str} {p pos : Pos} {e : Expr} {es : List Expr} {fa : AF}
theorem PostF.post {K : PySem.W.Frag} {w : Wit} {H : Hp} {σ : L2.St} {r : Res} {Q : VK} (h : Post K .e w H W σ r Q) : PostF K w H r Q (fun cls dx H' => W.wx cls dx σ H') := by
  cases r with
  | ok d S => exact h
  | exn x S => exact h
  | stuck => exact h
theorem call_of {K : PySem.W.Frag} {n : Nat} (hlen : ∀ ρ S ds S1, fa ρ S = .ok ds S1 → ds.length = n) : ∀ σ H Q, rd K .e W O (eCall ff fa) σ H Q → tCallSD (spD K n ff) [] (fun σ cls dx H' => W.wx cls dx σ H') (rdA K (PRep K) W O fa) σ H Q := by
  rintro σ H Q ⟨ent, w, ρ, S, r, p⟩
  refine ⟨ent, w, ρ, S, r, ?_⟩
  unfold eCall at p
  cases e : fa ρ S with
  | stuck => rw [e] at p; exact p
  | exn x S1 => rw [e] at p; exact p
  | ok ds S1 =>
    rw [e] at p
    intro vs H1 w1 x1 g1 z
    have z : Reps K w1 ds vs := z
    rw [List.append_nil]
    exact ⟨by rw [← z.length]; exact hlen _ _ _ _ e, w1, S1, ds, g1, z, PostF.post (Post.later (r := ff ds S1) x1 p)⟩
theorem aCons_len {f : EF} {g : AF} {n : Nat} (h : ∀ ρ S ds S1, g ρ S = .ok ds S1 → ds.length = n) : ∀ ρ S ds S1, aCons f g ρ S = .ok ds S1 → ds.length = n + 1 := fun ρ S ds S1 e => by
  unfold aCons at e
  cases e1 : f ρ S with
  | stuck => rw [e1] at e; cases e
  | exn x S2 => rw [e1] at e; cases e
  | ok d S2 =>
    rw [e1] at e
    dsimp only at e
    cases e2 : g ρ S2 with
    | stuck => rw [e2] at e; cases e
    | exn x S3 => rw [e2] at e; cases e
    | ok es S3 => rw [e2] at e; cases e; simp [h _ _ _ _ e2]
theorem aNil_len : ∀ (ρ : DEnv) (S : Sto) ds S1, aNil ρ S = .ok ds S1 → ds.length = 0 := fun ρ S ds S1 e => by cases e; rfl
theorem de_call (F : FnOk X.prog X.w X.K X.mg X.base (L2.CX X.prog X.w) k f fd ps (spD X.K ps.length ff)) (hr : Room k X.A) (hm : X.mg x = some (.ref f)) (hk : PySem.W.keepIn X.K (.ref f) = true) (hb : Binds X.K fd ps []) (tk : Takes X W.wx) (ha : DA X W O (e :: es) fa)
    (hlen : ∀ ρ S ds S1, fa ρ S = .ok ds S1 → ds.length = ps.length) (hg : Gl X x := by rfl)
    (hdb : (x == ("__debug__" : Str)) = false := by decide) (he : starEach (e :: es) X.env = (false, eval e X.env) :: starEach es X.env := by rfl) (hpl : (backTo pos (starEach es X.env)).any (·.1) = false := by rfl) :
    DE .e X W O (.Call (.Name x p) (e :: es) [] pos) (eCall ff fa) :=
  ⟨(pe_callSD F hr hg hm hk hb .nil (fun σ => L2.passAt tk σ) ha.pa hdb he hpl).imp (call_of hlen)⟩
end
end DL

/-! operators on data -/
namespace DL
open PySem PySem.Spec PyProof.Rows L2

/-! ### plain data -/
mutual
def toPy : D → PyData
  | .bl b => .bool b
  | .int i => .int i
  | .str x => .str x
  | .tup ds => .tuple (toPys ds)
  | .ctp ds => .tuple (toPys ds)
  | .lst ds => .list (toPys ds)
  | _ => .none
def toPys : List D → List PyData
  | [] => []
  | d :: ds => toPy d :: toPys ds
end
mutual
def plD : D → Bool
  | .non => true
  | .bl _ => true
  | .int _ => true
  | .str _ => true
  | .tup ds => plDs ds
  | .ctp ds => plDs ds
  | .lst ds => plDs ds
  | _ => false
def plDs : List D → Bool
  | [] => true
  | d :: ds => plD d && plDs ds
end
theorem toPys_map : ∀ ds : List D, toPys ds = ds.map toPy
  | [] => by simp [toPys]
  | d :: ds => by simp [toPys, toPys_map ds]
theorem plDs_all : ∀ ds : List D, plDs ds = ds.all plD
  | [] => by simp [plDs]
  | d :: ds => by simp [plDs, plDs_all ds]
mutual
theorem Rep.dp {K : PySem.W.Frag} {w : Wit} {H : Hp} (hs : ∀ a o, w.F a = some o → H a = some o) : ∀ {d : D} {v : V}, Rep K w d v → plD d = true → Dp K H v (toPy d)
  | _, _, .non, _ => by simp only [toPy]; exact .non
  | _, _, .bl b, _ => by simp only [toPy]; exact .bl b
  | _, _, .int b, _ => by simp only [toPy]; exact .int b
  | _, _, .str b, _ => by simp only [toPy]; exact .str b
  | _, _, .tup h r, p => by simp only [toPy]; exact .tup (SqT.of (hs _ _ h)) (Reps.dp hs r (by simpa [plD] using p))
  | _, _, .ctp h r, p => by simp only [toPy]; exact .tup (SqT.monoF none_le h) (Reps.dp hs r (by simpa [plD] using p))
  | _, _, .lst h r, p => by simp only [toPy]; exact .lst (SqL.monoF hs h) (Reps.dp hs r (by simpa [plD] using p))
  | _, _, .dK h r, p => absurd p (by simp [plD])
  | _, _, .dT h r, p => absurd p (by simp [plD])
  | _, _, .ins h r, p => absurd p (by simp [plD])
  | _, _, .obj h, p => absurd p (by simp [plD])
  | _, _, .cls c, p => absurd p (by simp [plD])
  | _, _, .dN h, p => absurd p (by simp [plD])
theorem Reps.dp {K : PySem.W.Frag} {w : Wit} {H : Hp} (hs : ∀ a o, w.F a = some o → H a = some o) : ∀ {ds : List D} {vs : List V}, Reps K w ds vs → plDs ds = true → DpAll K H vs (toPys ds)
  | _, _, .nil, _ => by simp only [toPys]; exact .nil
  | _, _, .cons h t, p => by
    simp only [plDs, Bool.and_eq_true] at p
    simp only [toPys]
    exact .cons (Rep.dp hs h p.1) (Reps.dp hs t p.2)
end
theorem Vw.dp {K : PySem.W.Frag} {w : Wit} {H : Hp} (hs : ∀ a o, w.F a = some o → H a = some o) {d : D} {v : V} (h : Vw K w H d v) (p : plD d = true) : Dp K H v (toPy d) := by
  cases h with
  | non => simp only [toPy]; exact .non
  | bl b => simp only [toPy]; exact .bl b
  | int b => simp only [toPy]; exact .int b
  | str b => simp only [toPy]; exact .str b
  | tup h r => simp only [toPy]; exact .tup (SqT.of (hs _ _ h)) (Reps.dp hs r (by simpa [plD] using p))
  | ctp h r => simp only [toPy]; exact .tup (SqT.monoF none_le h) (Reps.dp hs r (by simpa [plD] using p))
  | lst h r => simp only [toPy]; exact .lst h (Reps.dp hs r (by simpa [plD] using p))
  | _ => exact absurd p (by simp [plD])
/-- == -/
def eqD (x y : D) : Bool := PyData.eqv (toPy x) (toPy y)
/-- fit to be compared at any depth -/
def shD (d : D) : Bool := plD d && SeqAt.shaped (toPy d)
def flatD : D → Bool
  | .non => true
  | .bl _ => true
  | .int _ => true
  | .str _ => true
  | _ => false
def scalD : D → D → Bool
  | .non, .non => true | .non, .int _ => true | .int _, .non => true | .non, .bl _ => true | .bl _, .non => true | .non, .str _ => true | .str _, .non => true
  | .int _, .int _ => true | .bl _, .bl _ => true | .str _, .str _ => true
  | .int _, .str _ => true | .str _, .int _ => true | .bl _, .str _ => true | .str _, .bl _ => true
  | _, _ => false
def eqF (x y : D) : Option D := if scalD x y = true ∨ (shD x = true ∧ shD y = true) then some (.bl (eqD x y)) else none
def neF (x y : D) : Option D := if scalD x y = true ∨ (shD x = true ∧ shD y = true) then some (.bl (!eqD x y)) else none
theorem scal_of {K : PySem.W.Frag} {w : Wit} {H : Hp} {d1 d2 : D} {x y : V} (h1 : Vw K w H d1 x) (h2 : Vw K w H d2 y) (h : scalD d1 d2 = true) : scal x y = true ∧ decide (x = y) = eqD d1 d2 := by
  cases h1 <;> cases h2 <;> simp [scalD] at h <;> refine ⟨rfl, ?_⟩ <;> simp [eqD, toPy, PyData.eqv, dec_int, dec_str, dec_bl, Bool.beq_eq_decide_eq]
section
variable {X : Cx}
theorem op_eqd (hu : X.A.units + 64 < cLine) : OpR X (compareOp .Eq) (r2 X.K .e eqF) := by
  intro pins s σ H x y v u Q I rx ry ⟨w, S, d1, d2, d, g, k1, k2, e, q⟩
  have v1 := k1.vw g
  have v2 := k2.vw g
  unfold eqF at e
  split at e
  · rename_i hc
    cases e
    rcases hc with hc | ⟨s1, s2⟩
    · obtain ⟨a, b⟩ := scal_of v1 v2 hc
      exact op_eq pins s σ H x y v u Q I rx ry ⟨a, by rw [b]; exact q _ H w (.refl _ _) g (.bl _)⟩
    · have t1 := Bool.and_eq_true_iff.mp s1
      have t2 := Bool.and_eq_true_iff.mp s2
      exact op_eqD hu pins s σ H x y v u Q I rx ry ⟨_, _, v1.dp g.sub t1.1, v2.dp g.sub t2.1, t1.2, t2.2, q _ H w (.refl _ _) g (.bl _)⟩
  · cases e
theorem op_ned (hu : X.A.units + 64 < cLine) : OpR X (compareOp .NotEq) (r2 X.K .e neF) := by
  intro pins s σ H x y v u Q I rx ry ⟨w, S, d1, d2, d, g, k1, k2, e, q⟩
  have v1 := k1.vw g
  have v2 := k2.vw g
  unfold neF at e
  split at e
  · rename_i hc
    cases e
    rcases hc with hc | ⟨s1, s2⟩
    · obtain ⟨a, b⟩ := scal_of v1 v2 hc
      exact op_ne pins s σ H x y v u Q I rx ry ⟨a, by rw [b]; exact q _ H w (.refl _ _) g (.bl _)⟩
    · have t1 := Bool.and_eq_true_iff.mp s1
      have t2 := Bool.and_eq_true_iff.mp s2
      exact op_neD hu pins s σ H x y v u Q I rx ry ⟨_, _, v1.dp g.sub t1.1, v2.dp g.sub t2.1, t1.2, t2.2, q _ H w (.refl _ _) g (.bl _)⟩
  · cases e
end

/-! ### order -/
def iLt (f : Int → Int → Bool) : D → D → Option D
  | .int i, .int j => some (.bl (f i j))
  | _, _ => none
section
variable {X : Cx}
theorem op_ints {op : CmpOp} {f : Int → Int → Bool} (ho : OpR X (compareOp op) (rI0 fun i j => .bl (f i j))) : OpR X (compareOp op) (r2 X.K .e (iLt f)) := by
  intro pins s σ H x y v u Q I rx ry ⟨w, S, d1, d2, d, g, k1, k2, e, q⟩
  have v1 := k1.vw g
  have v2 := k2.vw g
  generalize deref S d1 = D1 at v1 e
  generalize deref S d2 = D2 at v2 e
  cases v1 <;> cases v2 <;> first
    | cases e
    | (simp only [iLt] at e; cases e)
  exact ho pins s σ H _ _ v u Q I rx ry ⟨_, _, rfl, rfl, q _ H w (.refl _ _) g (.bl _)⟩
theorem op_led : OpR X (compareOp .LtE) (r2 X.K .e (iLt fun i j => decide (i ≤ j))) := op_ints op_le
theorem op_gtd : OpR X (compareOp .Gt) (r2 X.K .e (iLt fun i j => decide (j < i))) := op_ints op_gt
theorem op_ged : OpR X (compareOp .GtE) (r2 X.K .e (iLt fun i j => decide (j ≤ i))) := op_ints op_ge
theorem op_lti : OpR X (compareOp .Lt) (r2 X.K .e (iLt fun i j => decide (i < j))) := op_ints op_lt
end

/-! ### arithmetic -/
def addF : D → D → Option D
  | .int i, .int j => some (.int (i + j))
  | .str a, .str b => if a.length + b.length < LIM then some (.str (a ++ b)) else none
  | .tup a, .tup b => if a.length + b.length < LIM then some (.tup (a ++ b)) else none
  | .lst a, .lst b => if a.length + b.length < LIM then some (.lst (a ++ b)) else none
  | _, _ => none
def subF : D → D → Option D
  | .int i, .int j => some (.int (i - j))
  | _, _ => none
def mulF : D → D → Option D
  | .int i, .int j => if (-(2 ^ 64) < j ∧ j < 2 ^ 64) then some (.int (i * j)) else none
  | _, _ => none
def divF : D → D → Option D
  | .int i, .int j => if 0 < j ∧ j < 1073741824 then some (.int (i / j)) else none
  | _, _ => none
def modF : D → D → Option D
  | .int i, .int j => if 0 < j then some (.int (i % j)) else none
  | _, _ => none
def powF : D → D → Option D
  | .int i, .int j => if 0 ≤ j ∧ j ≤ 1000000 ∧ i.natAbs < 2 ^ 64 then some (.int (i ^ j.toNat)) else none
  | _, _ => none
def negF : D → Option D
  | .int i => some (.int (-i))
  | _ => none
/-- list + list, by value -/
def rCatL (K : PySem.W.Frag) : R2 := fun x y H Q => ∃ l b xs zs, x = .ref l ∧ y = .ref b ∧ SqL K H l xs ∧ SqL K H b zs ∧ xs.length + zs.length ≤ sizeLine ∧ ∀ p, H p = none → Q (.ref p) (upd H p (.lst (xs ++ zs)))
section
variable {X : Cx}
theorem op_catL : OpR X (binaryOp .Add) (rCatL X.K) := by
  intro pins s σ H x y v u Q I rx ry ⟨l, b, xs, zs, ex, ey, h1, h2, hz, q⟩
  subst ex ey
  cases rx
  cases ry
  obtain ⟨its, r, ⟨⟨c1, dd1, dt1, sl1⟩, n, e, hc, hd, hdt⟩, z1⟩ := I.list h1
  obtain ⟨its2, r2, ⟨⟨c2, dd2, dt2, sl2⟩, n2, e2, hc2, hd2, hdt2⟩, z2⟩ := I.list h2
  simp only at hc hd hdt hc2 hd2 hdt2
  subst hc hd hdt hc2 hd2 hdt2
  have l1 := r.length
  have l2 := r2.length
  have ea : its.toArray ++ its2.toArray = (its ++ its2).toArray := by simp
  refine concat_meets ⟨_, e, rfl⟩ ⟨_, e2, rfl⟩ noFill_list_add seq_list_add PySem.F.slot_list_add PySem.F.entry_list_add (PySem.F.args_list_add_2 _ _)
    (list_addW l b its.toArray its2.toArray n n2 none none sl1 sl2 (by rw [List.size_toArray, List.size_toArray]; omega)) ⟨e, e2, ?_⟩
  rw [ea]
  exact ⟨.ref _, _, I.lnew (t' := s.toks) (r.append r2) (by rw [List.length_append]; exact hz), rfl, q _ I.fresh⟩
theorem op_addd : OpR X (binaryOp .Add) (r2 X.K .e addF) := by
  intro pins s σ H x y v u Q I rx ry ⟨w, S, d1, d2, d, g, k1, k2, e, q⟩
  have v1 := k1.vw g
  have v2 := k2.vw g
  generalize deref S d1 = D1 at v1 e
  generalize deref S d2 = D2 at v2 e
  cases v1 with
  | int i =>
    cases v2 with
    | int j => cases e; exact op_add pins s σ H _ _ v u Q I rx ry ⟨i, j, rfl, rfl, q _ H w (.refl _ _) g (.int _)⟩
    | _ => cases e
  | str a =>
    cases v2 with
    | str b =>
      simp only [addF] at e
      split at e
      · rename_i hl
        cases e
        exact op_add_str pins s σ H _ _ v u Q I rx ry ⟨a, b, rfl, rfl, Nat.le_of_lt (lim_size hl), q _ H w (.refl _ _) g (.str _)⟩
      · cases e
    | _ => cases e
  | @tup a1 vs1 ds1 h1 r1 =>
    cases v2 with
    | @tup a2 vs2 ds2 h2 r2 =>
      simp only [addF] at e
      split at e
      · rename_i hl
        cases e
        have e1 := r1.length
        have e2 := r2.length
        refine op_catA pins s σ H _ _ v u Q I rx ry ⟨a1, a2, vs1, vs2, rfl, rfl, SqT.of (g.sub _ _ h1), SqT.of (g.sub _ _ h2), by rw [← e1, ← e2]; exact Nat.le_of_lt (lim_size hl), fun hx => ?_, fun hx hy => ?_, fun hx hy p np => ?_⟩
        · have hd : ds1 = [] := List.eq_nil_of_length_eq_zero (by rw [e1, hx]; rfl)
          rw [hd] at q
          exact q _ H w (.refl _ _) g (.tup h2 r2)
        · have hd : ds2 = [] := List.eq_nil_of_length_eq_zero (by rw [e2, hy]; rfl)
          rw [hd, List.append_nil] at q
          exact q _ H w (.refl _ _) g (.tup h1 r1)
        · exact q _ _ (w.new p (.tup (vs1 ++ vs2))) (Ext.newF g np) (g.new np) (.tup upd_same ((r1.append r2).mono (Le.new (g.noneF np))))
      · cases e
    | _ => cases e
  | @lst a1 vs1 ds1 h1 r1 =>
    cases v2 with
    | @lst a2 vs2 ds2 h2 r2 =>
      simp only [addF] at e
      split at e
      · rename_i hl
        cases e
        have e1 := r1.length
        have e2 := r2.length
        refine op_catL pins s σ H _ _ v u Q I rx ry ⟨a1, a2, vs1, vs2, rfl, rfl, h1, h2, by rw [← e1, ← e2]; exact Nat.le_of_lt (lim_size hl), fun p np => ?_⟩
        exact q _ _ (w.new p (.lst (vs1 ++ vs2))) (Ext.newF g np) (g.new np) (.lst (.inl (.inl upd_same)) ((r1.append r2).mono (Le.new (g.noneF np))))
      · cases e
    | _ => cases e
  | _ => cases v2 <;> cases e
theorem op_ints2 {op : Operator} {C : Int → Int → Prop} {f : Int → Int → Int} {gF : D → D → Option D} (ho : OpR X (binaryOp op) (rI C fun i j => .int (f i j))) (hg : ∀ x y d, gF x y = some d → ∃ i j, x = .int i ∧ y = .int j ∧ C i j ∧ d = .int (f i j)) : OpR X (binaryOp op) (r2 X.K .e gF) := by
  intro pins s σ H x y v u Q I rx ry ⟨w, S, d1, d2, d, g, k1, k2, e, q⟩
  have v1 := k1.vw g
  have v2 := k2.vw g
  obtain ⟨i, j, e1, e2, c, rfl⟩ := hg _ _ _ e
  rw [e1] at v1
  rw [e2] at v2
  cases v1
  cases v2
  exact ho pins s σ H _ _ v u Q I rx ry ⟨i, j, rfl, rfl, c, q _ H w (.refl _ _) g (.int _)⟩
theorem op_subd : OpR X (binaryOp .Sub) (r2 X.K .e subF) := by
  intro pins s σ H x y v u Q I rx ry ⟨w, S, d1, d2, d, g, k1, k2, e, q⟩
  have v1 := k1.vw g
  have v2 := k2.vw g
  generalize deref S d1 = D1 at v1 e
  generalize deref S d2 = D2 at v2 e
  cases v1 <;> cases v2 <;> cases e
  exact op_sub pins s σ H _ _ v u Q I rx ry ⟨_, _, rfl, rfl, q _ H w (.refl _ _) g (.int _)⟩
theorem op_muld : OpR X (binaryOp .Mult) (r2 X.K .e mulF) := op_ints2 op_mul fun x y d e => by
  cases x <;> cases y <;> simp only [mulF] at e <;> first
    | cases e
    | (split at e
       · rename_i hc; cases e; exact ⟨_, _, rfl, rfl, .inr hc, rfl⟩
       · cases e)
theorem op_divd : OpR X (binaryOp .FloorDiv) (r2 X.K .e divF) := op_ints2 op_fdiv fun x y d e => by
  cases x <;> cases y <;> simp only [divF] at e <;> first
    | cases e
    | (split at e
       · rename_i hc; cases e; exact ⟨_, _, rfl, rfl, hc, rfl⟩
       · cases e)
theorem op_modd : OpR X (binaryOp .Mod) (r2 X.K .e modF) := op_ints2 op_mod fun x y d e => by
  cases x <;> cases y <;> simp only [modF] at e <;> first
    | cases e
    | (split at e
       · rename_i hc; cases e; exact ⟨_, _, rfl, rfl, hc, rfl⟩
       · cases e)
theorem op_powd : OpR X (binaryOp .Pow) (r2 X.K .e powF) := op_ints2 op_pow fun x y d e => by
  cases x <;> cases y <;> simp only [powF] at e <;> first
    | cases e
    | (split at e
       · rename_i hc; cases e; exact ⟨_, _, rfl, rfl, hc, rfl⟩
       · cases e)
theorem un_negd : UnR X (unaryOp .USub) (r1 X.K .e negF) := by
  intro pins s σ H x v Q I rx ⟨w, S, d1, d, g, k1, e, q⟩
  have v1 := k1.vw g
  generalize deref S d1 = D1 at v1 e
  cases v1 <;> cases e
  exact un_neg pins s σ H _ v Q I rx ⟨_, rfl, q _ H w (.refl _ _) g (.int _)⟩
end
end DL

/-! subscripts, slices, in -/
namespace DL
open PySem PySem.Spec PyProof.Rows L2

theorem _root_.L2.PE.or {X : Cx} {e : Expr} {t t' : TE} (h : PE X e t) (h' : PE X e t') : PE X e (fun σ H Q => t σ H Q ∨ t' σ H Q) :=
  ⟨fun pins s σ H Q I q => q.elim (h.run pins s σ H Q I) (h'.run pins s σ H Q I)⟩

/-! ### keys -/
def kOf : D → Option L2.Key
  | .int i => some (.inl i)
  | .str x => some (.inr x)
  | _ => none
theorem kOf_kD (k : L2.Key) : kOf (kD k) = some k := by cases k <;> rfl
theorem kOf_vw {K : PySem.W.Frag} {w : Wit} {H : Hp} {d : D} {v : V} {k : L2.Key} (h : Vw K w H d v) (e : kOf d = some k) : v = kV k := by
  cases h <;> simp [kOf] at e <;> subst e <;> rfl
theorem kOf_rep {K : PySem.W.Frag} {w : Wit} {d : D} {v : V} {k : L2.Key} (h : Rep K w d v) (e : kOf d = some k) : v = kV k := by
  cases h <;> simp [kOf] at e <;> subst e <;> rfl
def ksOf : List D → Option (List L2.Key)
  | [] => some []
  | d :: ds => match kOf d, ksOf ds with
    | some k, some ks => some (k :: ks)
    | _, _ => none
theorem ksOf_kD : ∀ ks : List L2.Key, ksOf (ks.map kD) = some ks
  | [] => rfl
  | k :: ks => by simp only [List.map_cons, ksOf, kOf_kD, ksOf_kD ks]
theorem ksOf_reps {K : PySem.W.Frag} {w : Wit} {ds : List D} {vs : List V} (h : Reps K w ds vs) : ∀ {ks : List L2.Key}, ksOf ds = some ks → vs = ks.map kV := by
  induction ds generalizing vs with
  | nil => intro ks e; cases h; cases e; rfl
  | cons d ds ih =>
    intro ks e
    cases h with
    | cons h t =>
      simp only [ksOf] at e
      cases e1 : kOf d with
      | none => simp [e1] at e
      | some k =>
        cases e2 : ksOf ds with
        | none => simp [e1, e2] at e
        | some ks' => simp [e1, e2] at e; subst e; rw [kOf_rep h e1, ih t e2]; rfl
def tOf : D → Option (List L2.Key)
  | .tup ds => ksOf ds
  | _ => none
def getK (kvs : List (D × D)) (k : L2.Key) : Option D := (kvs.find? fun kv => decide (kOf kv.1 = some k)).map (·.2)
def getT (kvs : List (D × D)) (k : List L2.Key) : Option D := (kvs.find? fun kv => decide (tOf kv.1 = some k)).map (·.2)
def OptRep (K : PySem.W.Frag) (w : Wit) : Option D → Option V → Prop
  | some d, some v => Rep K w d v
  | none, none => True
  | _, _ => False
theorem getK_rep {K : PySem.W.Frag} {w : Wit} {ds : List (D × D)} {vs : List (L2.Key × V)} (h : RepK K w ds vs) (k : L2.Key) : OptRep K w (getK ds k) (valV vs k) := by
  unfold getK valV
  induction ds generalizing vs with
  | nil => cases h; exact trivial
  | cons d ds ih =>
    cases h with
    | @cons k' d v ds vs h t =>
      rw [List.find?_cons, List.find?_cons]
      by_cases e : k' = k
      · subst e; simp [kOf_kD]; exact h
      · have e2 : ¬ (kOf (kD k') = some k) := by rw [kOf_kD]; simpa using e
        simp [e, e2]; simpa using ih t
theorem getT_rep {K : PySem.W.Frag} {w : Wit} {ds : List (D × D)} {vs : List (List L2.Key × V)} (h : RepT K w ds vs) (k : List L2.Key) : OptRep K w (getT ds k) (valV vs k) := by
  unfold getT valV
  induction ds generalizing vs with
  | nil => cases h; exact trivial
  | cons d ds ih =>
    cases h with
    | @cons k' d v ds vs h t =>
      rw [List.find?_cons, List.find?_cons]
      by_cases e : k' = k
      · subst e; simp [tOf, ksOf_kD]; exact h
      · have e2 : ¬ (tOf (.tup (k'.map kD)) = some k) := by simp only [tOf, ksOf_kD]; simpa using e
        simp [e, e2]; simpa using ih t
/-- d at y, if there -/
def lookF : D → D → Option (Option D)
  | .dct kvs, y => (kOf y).map (getK kvs)
  | .dtt kvs, y => (tOf y).map (getT kvs)
  | _, _ => none
theorem look_of {K : PySem.W.Frag} {w : Wit} {H : Hp} {d1 d2 : D} {x y : V} {o : Option D} (hs : ∀ a o, w.F a = some o → H a = some o) (h1 : Vw K w H d1 x) (h2 : Vw K w H d2 y) (e : lookF d1 d2 = some o) : ∃ a o', x = .ref a ∧ DGet H a y o' ∧ OptRep K w o o' := by
  cases h1 with
  | @dK a vs ds h r =>
    simp only [lookF] at e
    cases e1 : kOf d2 with
    | none => rw [e1] at e; cases e
    | some k =>
      rw [e1] at e; cases e
      exact ⟨a, _, rfl, .inl ⟨vs, k, h, kOf_vw h2 e1, rfl⟩, getK_rep r k⟩
  | @dT a vs ds h r =>
    simp only [lookF] at e
    cases h2 with
    | @tup b us es hb rb =>
      simp only [tOf] at e
      cases e1 : ksOf es with
      | none => rw [e1] at e; cases e
      | some k =>
        rw [e1] at e; cases e
        exact ⟨a, _, rfl, .inr ⟨vs, k, b, .inl h, rfl, by rw [← ksOf_reps rb e1]; exact hs _ _ hb, rfl⟩, getT_rep r k⟩
    | _ => cases e
  | _ => cases e

/-! ### x[i] -/
def ixS : D → D → Option D
  | .lst ds, .int i => atI ds i
  | .tup ds, .int i => atI ds i
  | .ctp ds, .int i => atI ds i
  | .str z, .int i => if z.length < LIM then (atI z.cps.toList i).map fun c => .str ⟨#[c]⟩ else none
  | _, _ => none
def ixD (x y : D) : Option D := (lookF x y).bind id
def ixF (x y : D) : Option D := match x with
  | .dct _ => ixD x y
  | .dtt _ => ixD x y
  | _ => ixS x y
theorem Reps.atI {K : PySem.W.Frag} {w : Wit} {ds : List D} {vs : List V} (h : Reps K w ds vs) {i : Int} {d : D} (e : L2.atI ds i = some d) : ∃ v, L2.atI vs i = some v ∧ Rep K w d v := by
  unfold L2.atI at *
  rw [← h.length]
  cases e1 : ixN ds.length i with
  | none => rw [e1] at e; cases e
  | some j => rw [e1] at e; exact h.get e
theorem ixr_seq {X : Cx} : IxR X (r2 X.K .e ixS) := by
  intro value slice pins s σ H x y v u Q I rx ry ⟨w, S, d1, d2, d, g, k1, k2, e, q⟩ hs
  have v1 := k1.vw g
  have v2 := k2.vw g
  generalize deref S d1 = D1 at v1 e
  generalize deref S d2 = D2 at v2 e
  cases v1 with
  | @lst a vs ds h r =>
    cases v2 <;> first | cases e | skip
    obtain ⟨z, ez, rz⟩ := r.atI e
    exact ix_list value slice pins s σ H _ _ v u Q I rx ry ⟨a, vs, _, z, rfl, rfl, h, ez, q _ H w (.refl _ _) g rz⟩ hs
  | @tup a vs ds h r =>
    cases v2 <;> first | cases e | skip
    obtain ⟨z, ez, rz⟩ := r.atI e
    exact ix_tup value slice pins s σ H _ _ v u Q I rx ry ⟨a, vs, _, z, rfl, rfl, SqT.of (g.sub _ _ h), ez, q _ H w (.refl _ _) g rz⟩ hs
  | @ctp a vs ds h r =>
    cases v2 <;> first | cases e | skip
    obtain ⟨z, ez, rz⟩ := r.atI e
    exact ix_tup value slice pins s σ H _ _ v u Q I rx ry ⟨a, vs, _, z, rfl, rfl, SqT.monoF none_le h, ez, q _ H w (.refl _ _) g rz⟩ hs
  | str z =>
    cases v2 <;> first | cases e | skip
    simp only [ixS] at e
    split at e
    · rename_i hl
      cases e1 : L2.atI z.cps.toList _ with
      | none => rw [e1] at e; cases e
      | some c =>
        rw [e1] at e; cases e
        exact ix_str value slice pins s σ H _ _ v u Q I rx ry ⟨z, _, c, rfl, rfl, Nat.le_of_lt (lim_size hl), e1, q _ H w (.refl _ _) g (.str _)⟩ hs
    · cases e
  | _ => cases v2 <;> cases e
section
variable {X : Cx} {W : WZ} {O : List Nat} {a b : Expr} {fa fb : EF} {k ka kb : Kd} {pos : Pos}
theorem e2_or {K : PySem.W.Frag} {g g1 g2 : D → D → Option D} (h : ∀ x y, g x y = g1 x y ∨ g x y = g2 x y) : ∀ σ H Q, rd K k W O (e2 g fa fb) σ H Q → rd K k W O (e2 g1 fa fb) σ H Q ∨ rd K k W O (e2 g2 fa fb) σ H Q := by
  rintro σ H Q ⟨ent, w, ρ, S, r, p⟩
  have : e2 g fa fb ρ S = e2 g1 fa fb ρ S ∨ e2 g fa fb ρ S = e2 g2 fa fb ρ S := by
    unfold e2
    cases fa ρ S with
    | stuck => exact .inl rfl
    | exn x S1 => exact .inl rfl
    | ok d S1 =>
      simp only [Res.bind_ok]
      cases fb ρ S1 with
      | stuck => exact .inl rfl
      | exn x S1 => exact .inl rfl
      | ok d2 S2 =>
        simp only [Res.bind_ok]
        exact (h (deref S2 d) (deref S2 d2)).imp (fun z => by rw [z]) (fun z => by rw [z])
  exact this.imp (fun z => ⟨ent, w, ρ, S, r, by rw [← z]; exact p⟩) (fun z => ⟨ent, w, ρ, S, r, by rw [← z]; exact p⟩)
theorem dget_of {K : PySem.W.Frag} : ∀ σ H Q, rd K .e W O (e2 ixD fa fb) σ H Q → tDGet (rd K ka W O fa) (rd K kb W O fb) σ H Q := by
  rintro σ H Q ⟨ent, w, ρ, S, r, p⟩
  refine ⟨ent, w, ρ, S, r, p.bind fun d S1 v H1 w1 x g1 z p1 => ?_⟩
  refine ⟨ent, w1, ρ, S1, r.later x g1, p1.bind fun d2 S2 v2 H2 w2 x2 g2 z2 p2 => ?_⟩
  have v1 := (z.ext (H1 := H2) x2).vw g2
  have v2 := (z2.ext (H1 := H2) (.refl _ _)).vw g2
  cases e : ixD (deref S2 d) (deref S2 d2) with
  | none => rw [e] at p2; exact p2.elim
  | some d' =>
    rw [e] at p2
    unfold ixD at e
    cases e1 : lookF (deref S2 d) (deref S2 d2) with
    | none => rw [e1] at e; cases e
    | some o =>
      rw [e1] at e
      have eo : o = some d' := e
      subst eo
      obtain ⟨a, o', ex, dg, ro⟩ := look_of g2.sub v1 v2 e1
      cases o' with
      | none => exact ro.elim
      | some v' => exact ⟨a, v', ex, dg, p2 v' H2 w2 (.refl _ _) g2 ro⟩
theorem de_sub (hu : X.A.units + 64 < cLine) (ha : DE ka X W O a fa) (hb : DE kb X W O b fb) (hs : PlainIx b := by exact fun _ _ => rfl) : DE .e X W O (.Subscript a b pos) (e2 ixF fa fb) :=
  ⟨((pe_ix ixr_seq ha.pe hb.pe hs).or (pe_dget (by omega) ha.pe hb.pe hs)).imp fun σ H Q h => (e2_or (g1 := ixS) (g2 := ixD) (fun x y => by cases x <;> first | exact .inl rfl | exact .inr rfl) σ H Q h).imp (tOp_of σ H Q) (dget_of σ H Q)⟩
end

/-! ### slices -/
def optI : D → Option (Option Int)
  | .non => some none
  | .int i => some (some i)
  | _ => none
def PostO (K : PySem.W.Frag) (w : Wit) (H : Hp) (W : WZ) (σ : L2.St) (r : Res) (Q : Option Int → Hp → Prop) : Prop := match r with
  | .ok d S => ∃ o, optI d = some o ∧ ∀ H' w', Ext w H w' H' → Gd K w' H' S → Q o H'
  | .exn x S => ∀ cls dx H' w', Ext w H w' H' → Gd K w' H' S → RepX K w' H' x cls dx → W.wx cls dx σ H'
  | .stuck => False
def rdO (K : PySem.W.Frag) (W : WZ) (O : List Nat) (f : EF) : TO := fun σ H Q => ∃ (ent : Ent W.xc) (w : Wit) (ρ : DEnv) (S : Sto), R K ent O w H σ ρ S ∧ PostO K w H W σ (f ρ S) Q
theorem _root_.L2.PO.imp {X : Cx} {e : Option Expr} {t t' : TO} (h : PO X e t) (i : ∀ σ H Q, t' σ H Q → t σ H Q) : PO X e t' := ⟨fun pins s σ H Q I q => h.run pins s σ H Q I (i σ H Q q)⟩
def ptF : D → Option D
  | .int i => some (.int i)
  | _ => none
structure DO (X : Cx) (W : WZ) (O : List Nat) (e : Option Expr) (f : EF) : Prop where
  po : PO X e (rdO X.K W O f)
theorem do_none {X : Cx} {W : WZ} {O : List Nat} : DO X W O none (eC .non) := ⟨po_none.imp fun σ H Q ⟨ent, w, ρ, S, r, p⟩ => by
  obtain ⟨o, e, p⟩ := p
  cases e
  exact p H w (.refl _ _) r.gd⟩
theorem do_some {X : Cx} {W : WZ} {O : List Nat} {e : Expr} {f : EF} {k : Kd} (h : DE k X W O e f) : DO X W O (some e) (e1 ptF f) := ⟨(po_some h.pe).imp fun σ H Q ⟨ent, w, ρ, S, r, p⟩ => by
  refine ⟨ent, w, ρ, S, r, ?_⟩
  unfold e1 at p
  cases e : f ρ S with
  | stuck => rw [e] at p; exact p
  | exn x S1 => rw [e] at p; exact p
  | ok d S1 =>
    rw [e] at p
    intro v H' w' x g z
    have vw := (z.ext (H1 := H') (.refl _ _)).vw g
    simp only [Res.bind_ok] at p
    generalize deref S1 d = d' at p vw
    cases vw with
    | int i =>
      obtain ⟨o, eo, p⟩ := p
      cases eo
      exact ⟨i, rfl, p H' w' x g⟩
    | _ => exact p.elim⟩
def wholeD (n : Nat) (lo hi : Option Int) : Bool := decide (HT.sIx n 0 lo = 0) && decide (HT.sIx n n hi = n)
def cutD (ds : List D) (lo hi : Option Int) : List D := (ds.drop (HT.sIx ds.length 0 lo)).take (HT.sIx ds.length ds.length hi - HT.sIx ds.length 0 lo)
def slF (x : D) (lo hi : Option Int) : Option D := match x with
  | .lst ds => some (.lst (cutD ds lo hi))
  | .tup ds => some (.tup (cutD ds lo hi))
  | .ctp ds => if wholeD ds.length lo hi then some (.ctp ds) else some (.tup (cutD ds lo hi))
  | .str z => if z.length < LIM then some (.str (cutS z lo hi)) else none
  | _ => none
def rSl (K : PySem.W.Frag) (k : Kd) (g : D → Option Int → Option Int → Option D) : V → Option Int → Option Int → Hp → VK → Prop := fun x lo hi H Q => ∃ w S d1 d, Gd K w H S ∧ KP K .b H w H d1 x ∧ g (deref S d1) lo hi = some d ∧ ∀ v H' w', Ext w H w' H' → Gd K w' H' S → KP K k H w' H' d v → Q v H'
theorem Reps.cut {K : PySem.W.Frag} {w : Wit} {ds : List D} {vs : List V} (h : Reps K w ds vs) (lo hi : Option Int) : Reps K w (cutD ds lo hi) (cutV vs lo hi) := by
  unfold cutD cutV
  rw [h.length]
  exact (h.drop _).take _
theorem cut_whole {ds : List D} {lo hi : Option Int} (h1 : HT.sIx ds.length 0 lo = 0) (h2 : HT.sIx ds.length ds.length hi = ds.length) : cutD ds lo hi = ds := by
  unfold cutD; rw [h1, h2]; simp
theorem slr_e {X : Cx} : SlR X (rSl X.K .e slF) := by
  intro pins s σ H x v vl vu lo hi sl Q I rx hsl hl hh ⟨w, S, d1, d, g, k1, e, q⟩
  have v1 := k1.vw g
  generalize deref S d1 = D1 at v1 e
  cases v1 with
  | @lst a vs ds h r =>
    cases e
    exact sl_list pins s σ H _ v vl vu lo hi sl Q I rx hsl hl hh ⟨a, vs, rfl, h, fun p np => q _ _ (w.new p (.lst (cutV vs lo hi))) (Ext.newF g np) (g.new np) (.lst (.inl (.inl upd_same)) ((r.cut lo hi).mono (Le.new (g.noneF np))))⟩
  | @tup a vs ds h r =>
    cases e
    refine sl_tupA pins s σ H _ v vl vu lo hi sl Q I rx hsl hl hh ⟨a, vs, rfl, SqT.of (g.sub _ _ h), fun hc => ?_, fun _ p np => ?_⟩
    · rw [← r.length] at hc
      rw [cut_whole hc.1 hc.2] at q
      exact q _ H w (.refl _ _) g (.tup h r)
    · exact q _ _ (w.new p (.tup (cutV vs lo hi))) (Ext.newF g np) (g.new np) (.tup upd_same ((r.cut lo hi).mono (Le.new (g.noneF np))))
  | @ctp a vs ds h r =>
    simp only [slF] at e
    refine sl_tupA pins s σ H _ v vl vu lo hi sl Q I rx hsl hl hh ⟨a, vs, rfl, SqT.monoF none_le h, fun hc => ?_, fun hc p np => ?_⟩
    · rw [← r.length] at hc
      rw [if_pos (by simp [wholeD, hc.1, hc.2])] at e
      cases e
      exact q _ H w (.refl _ _) g (.ctp h r)
    · rw [← r.length] at hc
      rw [if_neg (by simpa [wholeD] using hc)] at e
      cases e
      exact q _ _ (w.new p (.tup (cutV vs lo hi))) (Ext.newF g np) (g.new np) (.tup upd_same ((r.cut lo hi).mono (Le.new (g.noneF np))))
  | str z =>
    simp only [slF] at e
    split at e
    · rename_i hl'
      cases e
      exact sl_str pins s σ H _ v vl vu lo hi sl Q I rx hsl hl hh ⟨z, rfl, Nat.le_of_lt (lim_size hl'), q _ H w (.refl _ _) g (.str _)⟩
    · cases e
  | _ => cases e
def eSl (g : D → Option Int → Option Int → Option D) (fa fl fh : EF) : EF := fun ρ S => (fa ρ S).bind fun x S1 => (fl ρ S1).bind fun l S2 => match optI l with
  | none => .stuck
  | some lo => (fh ρ S2).bind fun h S3 => match optI h with
    | none => .stuck
    | some hi => .ofOpt (g (deref S3 x) lo hi) S3
section
variable {X : Cx} {W : WZ} {O : List Nat} {e : Expr} {lo hi : Option Expr} {fa fl fh : EF} {k ka : Kd} {pos p2 : Pos} {g : D → Option Int → Option Int → Option D}
theorem de_slG (hr : SlR X (rSl X.K k g)) (ha : DE ka X W O e fa) (hl : DO X W O lo fl) (hh : DO X W O hi fh) : DE k X W O (.Subscript e (.Slice lo hi none p2) pos) (eSl g fa fl fh) := by
  refine ⟨(pe_slice hr ha.pe hl.po hh.po).imp ?_⟩
  rintro σ H Q ⟨ent, w, ρ, S, r, p⟩
  refine ⟨ent, w, ρ, S, r, p.bind fun d S1 v H1 w1 x g1 z p1 => ?_⟩
  refine ⟨ent, w1, ρ, S1, r.later x g1, ?_⟩
  cases e2 : fl ρ S1 with
  | stuck => rw [e2] at p1; exact p1
  | exn y S2 => rw [e2] at p1; exact p1
  | ok l S2 =>
    rw [e2] at p1
    simp only [Res.bind_ok] at p1
    cases el : optI l with
    | none => rw [el] at p1; exact p1.elim
    | some lo' =>
      rw [el] at p1
      refine ⟨lo', el, fun H2 w2 x2 g2 => ⟨ent, w2, ρ, S2, (r.later x g1).later x2 g2, ?_⟩⟩
      have p2 := Post.later x2 p1
      cases e3 : fh ρ S2 with
      | stuck => simp only [e3] at p2; exact p2
      | exn y S3 => simp only [e3] at p2; exact p2
      | ok h S3 =>
        simp only [e3, Res.bind_ok] at p2
        cases eh : optI h with
        | none => simp only [eh] at p2; exact p2.elim
        | some hi' =>
          simp only [eh] at p2
          refine ⟨hi', eh, fun H3 w3 x3 g3 => ?_⟩
          cases e4 : g (deref S3 d) lo' hi' with
          | none => rw [e4] at p2; exact p2.elim
          | some d' =>
            rw [e4] at p2
            exact ⟨w3, S3, d, d', g3, z.ext (x2.trans x3), e4, Post.later (r := .ok d' S3) x3 p2⟩
theorem de_sl (ha : DE ka X W O e fa) (hl : DO X W O lo fl) (hh : DO X W O hi fh) : DE .e X W O (.Subscript e (.Slice lo hi none p2) pos) (eSl slF fa fl fh) := de_slG slr_e ha hl hh
end

/-! ### in -/
theorem flat_of {K : PySem.W.Frag} {w : Wit} {H : Hp} {d : D} {v : V} (h : Vw K w H d v) (f : flatD d = true) : flatV v = true := by
  cases h <;> first | rfl | cases f
theorem flat_ofR {K : PySem.W.Frag} {w : Wit} {d : D} {v : V} (h : Rep K w d v) (f : flatD d = true) : flatV v = true := by
  cases h <;> first | rfl | cases f
theorem eqV_of {K : PySem.W.Frag} {w : Wit} {H : Hp} {d1 d2 : D} {x y : V} (h1 : Rep K w d1 x) (h2 : Vw K w H d2 y) (f1 : flatD d1 = true) (f2 : flatD d2 = true) : eqV x y = eqD d1 d2 := by
  cases h1 <;> first | cases f1 | skip
  all_goals (cases h2 <;> first | cases f2 | skip)
  all_goals simp [eqV, eqD, toPy, PyData.eqv]
theorem flats_of {K : PySem.W.Frag} {w : Wit} {ds : List D} {vs : List V} (h : Reps K w ds vs) (f : ds.all flatD = true) : vs.all flatV = true := by
  induction ds generalizing vs with
  | nil => cases h; rfl
  | cons d ds ih =>
    cases h with
    | cons h t =>
      simp only [List.all_cons, Bool.and_eq_true] at f ⊢
      exact ⟨flat_ofR h f.1, ih t f.2⟩
theorem inV_of {K : PySem.W.Frag} {w : Wit} {H : Hp} {d : D} {x : V} {ds : List D} {vs : List V} (h : Reps K w ds vs) (hx : Vw K w H d x) (fx : flatD d = true) (f : ds.all flatD = true) : inV x vs = ds.any fun y => eqD y d := by
  unfold inV
  induction ds generalizing vs with
  | nil => cases h; rfl
  | cons d ds ih =>
    cases h with
    | cons h t =>
      simp only [List.all_cons, Bool.and_eq_true] at f
      simp only [List.any_cons]
      rw [eqV_of h hx f.1 fx, ih t f.2]
def inSq (x : D) (ds : List D) : Option Bool :=
  if (flatD x && ds.all flatD) = true ∨ (shD x && shD (.lst ds)) = true then some (ds.any fun y => eqD y x) else none
/-- a key of the dict that tells True -/
def nOf : D → Option (Option Int)
  | .non => some none
  | .int i => some (some i)
  | _ => none
def nV : Option Int → V
  | none => .non
  | some i => .int i
theorem nOf_vw {K : PySem.W.Frag} {w : Wit} {H : Hp} {d : D} {v : V} {k : Option Int} (h : Vw K w H d v) (e : nOf d = some k) : v = nV k := by
  cases h <;> simp [nOf] at e <;> subst e <;> rfl
theorem nV_is {P : Program} {w : World} {k : Option Int} {u : Value} (r : RelV (nV k) u) : (noneKind P w).is (dnK k) u = true := by
  cases k with
  | none =>
    obtain rfl : u = Value.none := r
    rfl
  | some i =>
    have r' : RelV (kV (.inl i)) u := r
    exact kV_is (P := P) (w := w) r'
theorem dnK_inj {j k : Option Int} : dnK j = dnK k ↔ j = k := by
  unfold dnK
  constructor
  · intro h
    cases j <;> cases k <;> simp at h ⊢
    exact h
  · rintro rfl; rfl
theorem dn_val (ks : List (Option Int)) (k : Option Int) : (valueAt (ks.map dnE) (dnK k)).isSome = decide (k ∈ ks) := by
  unfold valueAt
  rw [Option.isSome_map, Bool.eq_iff_iff, List.find?_isSome]
  constructor
  · rintro ⟨kv, hm, hd⟩
    obtain ⟨j, hj, rfl⟩ := List.mem_map.mp hm
    have e : dnK j = dnK k := of_decide_eq_true hd
    exact decide_eq_true (dnK_inj.mp e ▸ hj)
  · intro h
    exact ⟨dnE k, List.mem_map.mpr ⟨k, of_decide_eq_true h, rfl⟩, decide_eq_true rfl⟩
section
variable {X : Cx} {pins : List (Addr × Obj)} {σ : L2.St} {H : Hp} {s : Shared} {a : Addr} {ks : List (Option Int)} {k : Option Int} {u : Value} {A : Around} {E : Value → Shared → Prop} {Q : Value → Shared → Prop}
theorem n_in (I : L2.Inv X pins σ H s) (e : H a = some (DNo a ks)) (r : RelV (nV k) u) (h : ∀ s', L2.Inv X pins σ H s' → Q (.bool (decide (k ∈ ks))) s') : wpAny (model X.prog X.w) A (compareOp .In u (.ref a)) Q E s := by
  obtain ⟨hd, dd⟩ := dn_of (I.hok _ _ e)
  refine wpAny_in_of (nV_is r) hd dd.mapOf ?_
  rw [dn_val]
  exact h _ (I.tok _)
theorem n_notIn (I : L2.Inv X pins σ H s) (e : H a = some (DNo a ks)) (r : RelV (nV k) u) (h : ∀ s', L2.Inv X pins σ H s' → Q (.bool (!decide (k ∈ ks))) s') : wpAny (model X.prog X.w) A (compareOp .NotIn u (.ref a)) Q E s := by
  obtain ⟨hd, dd⟩ := dn_of (I.hok _ _ e)
  refine wpAny_notIn_of (nV_is r) hd dd.mapOf ?_
  rw [dn_val]
  exact h _ (I.tok _)
end
def inB (x y : D) : Option Bool := match y with
  | .lst ds => inSq x ds
  | .tup ds => inSq x ds
  | .ctp ds => inSq x ds
  | .dct kvs => (lookF (.dct kvs) x).map (·.isSome)
  | .dtt kvs => (lookF (.dtt kvs) x).map (·.isSome)
  | .dno ks => (nOf x).map fun k => decide (k ∈ ks)
  | _ => none
def inF (x y : D) : Option D := (inB x y).map .bl
def notInF (x y : D) : Option D := (inB x y).map fun b => .bl (!b)
theorem any_toPy (ds : List D) (d : D) : ((toPys ds).any fun z => PyData.eqv z (toPy d)) = ds.any fun y => eqD y d := by
  rw [toPys_map]; simp [eqD, List.any_map]; rfl
/-- in a tuple, at any depth -/
def rInT (K : PySem.W.Frag) (neg : Bool) : R2 := fun x y H Q => ∃ d ds, Dp K H x d ∧ Dp K H y (.tuple ds) ∧ SeqAt.shaped d = true ∧ SeqAt.shaped (.tuple ds) = true ∧ Q (.bl (if neg then !ds.any fun z => PyData.eqv z d else ds.any fun z => PyData.eqv z d)) H
theorem shaped_tup {ds : List PyData} (h : SeqAt.shaped (.tuple ds) = true) : PyData.canLayAll0 ds = true ∧ PyData.depthAll ds + 1 ≤ 64 := by
  simp only [SeqAt.shaped, Bool.and_eq_true, decide_eq_true_eq, PyData.canLay0, PyData.depth] at h
  exact ⟨h.1, of_decide_eq_true h.2⟩
section
variable {X : Cx}
theorem op_inT (hu : X.A.units + 64 < cLine) : OpR X (compareOp .In) (rInT X.K false) := by
  intro pins s σ H x y v u Q I rx ry ⟨d, ds, hx, hy, s1, s2, q⟩
  obtain ⟨as, r1⟩ := Dp.reads I _ _ _ hx rx
  obtain ⟨bs, r2⟩ := Dp.reads I _ _ _ hy ry
  have s2' := shaped_tup s2
  have s1' := Bool.and_eq_true_iff.mp s1
  have s1d : d.depth ≤ 64 := by simpa using s1'.2
  exact SeqAt.in_tuple_reads r2 r1 s2'.1 s1'.1 (by have := Nat.min_le_left (PyData.depthAll ds) d.depth; have := s2'.2; omega) ⟨.bl _, H, I, rfl, q⟩
theorem op_notInT (hu : X.A.units + 64 < cLine) : OpR X (compareOp .NotIn) (rInT X.K true) := by
  intro pins s σ H x y v u Q I rx ry ⟨d, ds, hx, hy, s1, s2, q⟩
  obtain ⟨as, r1⟩ := Dp.reads I _ _ _ hx rx
  obtain ⟨bs, r2⟩ := Dp.reads I _ _ _ hy ry
  have s2' := shaped_tup s2
  have s1' := Bool.and_eq_true_iff.mp s1
  exact SeqAt.notIn_tuple_reads r2 r1 s2'.1 s1'.1 (by have := Nat.min_le_left (PyData.depthAll ds) d.depth; have := s2'.2; omega) ⟨.bl _, H, I, rfl, q⟩
theorem inSq_of {K : PySem.W.Frag} {w : Wit} {H : Hp} {dx : D} {x : V} {ds : List D} {vs : List V} {b : Bool} (h : Reps K w ds vs) (hx : Vw K w H dx x) (e : inSq dx ds = some b) :
    (flatV x = true ∧ vs.all flatV = true ∧ inV x vs = b) ∨ (shD dx = true ∧ shD (.lst ds) = true ∧ ((toPys ds).any fun z => PyData.eqv z (toPy dx)) = b) := by
  unfold inSq at e
  split at e
  · rename_i hc
    cases e
    rcases hc with hc | hc
    · have := Bool.and_eq_true_iff.mp hc
      exact .inl ⟨flat_of hx this.1, flats_of h this.2, inV_of h hx this.1 this.2⟩
    · have := Bool.and_eq_true_iff.mp hc
      exact .inr ⟨this.1, this.2, any_toPy ds dx⟩
  · cases e
theorem sh_lst_tup {ds : List D} (h : shD (.lst ds) = true) : shD (.tup ds) = true := by
  simp only [shD, plD, toPy, SeqAt.shaped, PyData.canLay0, PyData.depth] at h ⊢
  exact h
theorem sh_lst_ctp {ds : List D} (h : shD (.lst ds) = true) : shD (.ctp ds) = true := by
  simp only [shD, plD, toPy, SeqAt.shaped, PyData.canLay0, PyData.depth] at h ⊢
  exact h
theorem op_inG (hu : X.A.units + 65 < cLine) (neg : Bool) (op : CmpOp) (h1 : OpR X (compareOp op) (rIn X.K neg))
    (h2 : OpR X (compareOp op) (fun x y H Q => ∃ d ds, Dp X.K H x d ∧ Dp X.K H y (.list ds) ∧ SeqAt.shaped d = true ∧ SeqAt.shaped (.list ds) = true ∧ Q (.bl (if neg then !ds.any fun z => PyData.eqv z d else ds.any fun z => PyData.eqv z d)) H))
    (h3 : OpR X (compareOp op) (rInT X.K neg))
    (h4 : ∀ {pins : List (Addr × Obj)} {σ : L2.St} {H : Hp} {s : Shared} {a : Addr} {y : V} {u : Value} {o : Option V} {Q : Value → Shared → Prop}, L2.Inv X pins σ H s → DGet H a y o → L2.RelV y u → (∀ s', L2.Inv X pins σ H s' → Q (Value.bool (if neg then !o.isSome else o.isSome)) s') → wpAny (model X.prog X.w) X.A (compareOp op u (Value.ref a)) Q X.xe s)
    (h5 : ∀ {pins : List (Addr × Obj)} {σ : L2.St} {H : Hp} {s : Shared} {a : Addr} {ks : List (Option Int)} {k : Option Int} {u : Value} {Q : Value → Shared → Prop}, L2.Inv X pins σ H s → H a = some (DNo a ks) → RelV (nV k) u → (∀ s', L2.Inv X pins σ H s' → Q (Value.bool (if neg then !decide (k ∈ ks) else decide (k ∈ ks))) s') → wpAny (model X.prog X.w) X.A (compareOp op u (Value.ref a)) Q X.xe s) :
    OpR X (compareOp op) (r2 X.K .e fun x y => (inB x y).map fun b => .bl (if neg then !b else b)) := by
  intro pins s σ H x y v u Q I rx ry ⟨w, S, d1, d2, d, g, k1, k2, e, q⟩
  have v1 := k1.vw g
  have v2 := k2.vw g
  generalize deref S d1 = D1 at v1 e
  generalize deref S d2 = D2 at v2 e
  dsimp only at e
  cases eb : inB D1 D2 with
  | none => rw [eb] at e; cases e
  | some b =>
    rw [eb] at e
    have hb : d = .bl (if neg then !b else b) := by simpa using e.symm
    subst hb
    have dict : ∀ kd, D2 = kd → (lookF kd D1).map (·.isSome) = some b → wpAny (model X.prog X.w) X.A (compareOp op v u) (EP X pins σ Q) X.xe s := by
      rintro kd rfl el
      cases eo : lookF D2 D1 with
      | none => rw [eo] at el; cases el
      | some o =>
        rw [eo] at el
        have ei : o.isSome = b := by simpa using el
        obtain ⟨a, o', ea, dg, ro⟩ := look_of g.sub v2 v1 eo
        subst ea
        have eu : u = .ref a := ry
        subst eu
        refine h4 I dg rx fun s' I' => ⟨.bl _, H, I', rfl, ?_⟩
        have : o'.isSome = b := by
          rw [← ei]
          cases o <;> cases o' <;> first | rfl | exact ro.elim
        rw [this]
        exact q _ H w (.refl _ _) g (.bl _)
    cases v2 with
    | @lst a vs ds h r =>
      rcases inSq_of r v1 eb with ⟨f1, f2, f3⟩ | ⟨f1, f2, f3⟩
      · exact h1 pins s σ H _ _ v u Q I rx ry ⟨a, vs, rfl, .inl h, f1, f2, by rw [f3]; exact q _ H w (.refl _ _) g (.bl _)⟩
      · have t1 := Bool.and_eq_true_iff.mp f1
        have t2 := Bool.and_eq_true_iff.mp f2
        refine h2 pins s σ H _ _ v u Q I rx ry ⟨_, toPys ds, v1.dp g.sub t1.1, .lst h (Reps.dp g.sub r (by simpa [plD] using t2.1)), t1.2, by simpa [toPy] using t2.2, ?_⟩
        rw [f3]
        exact q _ H w (.refl _ _) g (.bl _)
    | @tup a vs ds h r =>
      rcases inSq_of r v1 eb with ⟨f1, f2, f3⟩ | ⟨f1, f2, f3⟩
      · exact h1 pins s σ H _ _ v u Q I rx ry ⟨a, vs, rfl, .inr (SqT.of (g.sub _ _ h)), f1, f2, by rw [f3]; exact q _ H w (.refl _ _) g (.bl _)⟩
      · have t1 := Bool.and_eq_true_iff.mp f1
        have t2 := Bool.and_eq_true_iff.mp (sh_lst_tup f2)
        refine h3 pins s σ H _ _ v u Q I rx ry ⟨_, toPys ds, v1.dp g.sub t1.1, .tup (SqT.of (g.sub _ _ h)) (Reps.dp g.sub r (by simpa [plD] using t2.1)), t1.2, by simpa [toPy] using t2.2, ?_⟩
        rw [f3]
        exact q _ H w (.refl _ _) g (.bl _)
    | @ctp a vs ds h r =>
      rcases inSq_of r v1 eb with ⟨f1, f2, f3⟩ | ⟨f1, f2, f3⟩
      · exact h1 pins s σ H _ _ v u Q I rx ry ⟨a, vs, rfl, .inr (SqT.monoF none_le h), f1, f2, by rw [f3]; exact q _ H w (.refl _ _) g (.bl _)⟩
      · have t1 := Bool.and_eq_true_iff.mp f1
        have t2 := Bool.and_eq_true_iff.mp (sh_lst_ctp f2)
        refine h3 pins s σ H _ _ v u Q I rx ry ⟨_, toPys ds, v1.dp g.sub t1.1, .tup (SqT.monoF none_le h) (Reps.dp g.sub r (by simpa [plD] using t2.1)), t1.2, by simpa [toPy] using t2.2, ?_⟩
        rw [f3]
        exact q _ H w (.refl _ _) g (.bl _)
    | dK h r => exact dict _ rfl eb
    | dT h r => exact dict _ rfl eb
    | @dN a ks h =>
      simp only [inB] at eb
      cases ek : nOf D1 with
      | none => rw [ek] at eb; cases eb
      | some k =>
        rw [ek] at eb
        have ei : decide (k ∈ ks) = b := by simpa using eb
        have ex := nOf_vw v1 ek
        rw [ex] at rx
        obtain rfl : u = .ref a := ry
        refine h5 I h rx fun s' I' => ⟨.bl _, H, I', rfl, ?_⟩
        rw [ei]
        exact q _ H w (.refl _ _) g (.bl _)
    | _ => cases eb
theorem op_ind (hu : X.A.units + 65 < cLine) : OpR X (compareOp .In) (r2 X.K .e inF) := by
  have := op_inG hu false .In op_in_seq (op_inD hu) (op_inT (by omega)) (fun I dg r h => d_in (by omega) I dg r h) (fun I e r h => n_in I e r h)
  simp only [Bool.false_eq_true, if_false] at this
  exact this
theorem op_notInd (hu : X.A.units + 65 < cLine) : OpR X (compareOp .NotIn) (r2 X.K .e notInF) := by
  have := op_inG hu true .NotIn op_notIn_seq (op_notInD hu) (op_notInT (by omega)) (fun I dg r h => d_notIn (by omega) I dg r h) (fun I e r h => n_notIn I e r h)
  simp only [if_true] at this
  exact this
end
end DL

/-! calls of what is built in -/
namespace L2
open PySem PySem.Spec PyProof.Rows
theorem call_lenDR {X : Cx} : CallR X (.builtin "len") (fun xs H Q => ∃ a kvs, xs = [V.ref a] ∧ Rd H a (.dK kvs) ∧ Q (.int kvs.length) H) := by
  intro pins s σ H xs us Q I r h
  obtain ⟨a, kvs, rfl, ha, q⟩ := h
  obtain ⟨u, rfl, ru⟩ := vals1 r
  cases ru
  exact d_len I ha fun t s' I' => ⟨.int kvs.length, H, I', ⟨t, rfl⟩, q⟩
end L2
namespace DL
open PySem PySem.Spec PyProof.Rows L2

def VwN (K : PySem.W.Frag) (w : Wit) (H : Hp) : List D → List V → Prop
  | [], [] => True
  | a :: r, x :: s => Vw K w H a x ∧ VwN K w H r s
  | _, _ => False
theorem KPs.vw {K : PySem.W.Frag} {w : Wit} {H : Hp} {S : Sto} (g : Gd K w H S) {ds : List D} {vs : List V} (h : KPs K w H ds vs) : VwN K w H (ds.map (deref S)) vs := by
  induction h with
  | nil => exact trivial
  | cons h t ih => exact ⟨h.vw g, ih⟩
theorem VwN.one {K : PySem.W.Frag} {w : Wit} {H : Hp} {a : D} : ∀ {xs : List V}, VwN K w H [a] xs → ∃ x, xs = [x] ∧ Vw K w H a x
  | [], h => h.elim
  | [x], h => ⟨x, rfl, h.1⟩
  | _ :: _ :: _, h => h.2.elim
theorem VwN.two {K : PySem.W.Frag} {w : Wit} {H : Hp} {a b : D} : ∀ {xs : List V}, VwN K w H [a, b] xs → ∃ x y, xs = [x, y] ∧ Vw K w H a x ∧ Vw K w H b y
  | [], h => h.elim
  | [x], h => h.2.elim
  | [x, y], h => ⟨x, y, rfl, h.1, h.2.1⟩
  | _ :: _ :: _ :: _, h => h.2.2.elim
def f1 (g : D → Option D) : List D → Option D
  | [d] => g d
  | _ => none
def f2 (g : D → D → Option D) : List D → Option D
  | [d1, d2] => g d1 d2
  | _ => none
theorem f1_some {g : D → Option D} : ∀ {es : List D} {d : D}, f1 g es = some d → ∃ a, es = [a] ∧ g a = some d
  | [], _, h => by cases h
  | [a], _, h => ⟨a, rfl, h⟩
  | _ :: _ :: _, _, h => by cases h
section
variable {X : Cx}
/-- one argument -/
theorem call1 {f : Value} {k : Kd} {g : D → Option D} (h : ∀ (pins : List (Addr × Obj)) (s : Shared) (σ : L2.St) (H : Hp) (x : V) (u : Value) (Q : VK) (w : Wit) (S : Sto) (d d' : D), L2.Inv X pins σ H s → L2.RelV x u → Gd X.K w H S → Vw X.K w H d x → g d = some d' →
      (∀ v H' w', Ext w H w' H' → Gd X.K w' H' S → KP X.K k H w' H' d' v → Q v H') → wpAny (model X.prog X.w) X.A (call f [u]) (EP X pins σ Q) X.xe s) :
    CallR X f (rN X.K k (f1 g)) := by
  intro pins s σ H xs us Q I rx ⟨w, S, ds, d, gd, ks, e, q⟩
  have vw := ks.vw gd
  obtain ⟨a, ea, e⟩ := f1_some e
  rw [ea] at vw
  obtain ⟨x, rfl, vx⟩ := vw.one
  cases rx with
  | cons r t => cases t; exact h pins s σ H x _ Q w S a d I r gd vx e q
/-! ### len -/
def lenF : D → Option D
  | .lst ds => some (.int ds.length)
  | .tup ds => some (.int ds.length)
  | .ctp ds => some (.int ds.length)
  | .dct ds => some (.int ds.length)
  | .dtt ds => some (.int ds.length)
  | .str z => if z.length < LIM then some (.int z.length) else none
  | _ => none
theorem RepK.length {K : PySem.W.Frag} {w : Wit} {ds : List (D × D)} {vs : List (L2.Key × V)} (h : RepK K w ds vs) : ds.length = vs.length := by
  induction ds generalizing vs with
  | nil => cases h; rfl
  | cons d ds ih => cases h with | cons h t => simp [ih t]
theorem RepT.length {K : PySem.W.Frag} {w : Wit} {ds : List (D × D)} {vs : List (List L2.Key × V)} (h : RepT K w ds vs) : ds.length = vs.length := by
  induction ds generalizing vs with
  | nil => cases h; rfl
  | cons d ds ih => cases h with | cons h t => simp [ih t]
theorem cr_len : CallR X (.builtin "len") (rN X.K .e (f1 lenF)) := by
  refine call1 fun pins s σ H x u Q w S d d' I r g v e q => ?_
  have rv : Vals [x] [u] := .cons r .nil
  cases v with
  | lst h rr => cases e; exact call_len_seq pins s σ H [_] [u] Q I rv ⟨_, _, rfl, .inl h, by rw [← rr.length]; exact q _ H w (.refl _ _) g (.int _)⟩
  | tup h rr => cases e; exact call_len_seq pins s σ H [_] [u] Q I rv ⟨_, _, rfl, .inr (SqT.of (g.sub _ _ h)), by rw [← rr.length]; exact q _ H w (.refl _ _) g (.int _)⟩
  | ctp h rr => cases e; exact call_len_seq pins s σ H [_] [u] Q I rv ⟨_, _, rfl, .inr (SqT.monoF none_le h), by rw [← rr.length]; exact q _ H w (.refl _ _) g (.int _)⟩
  | dK h rr => cases e; exact call_lenDR pins s σ H [_] [u] Q I rv ⟨_, _, rfl, h, by rw [← rr.length]; exact q _ H w (.refl _ _) g (.int _)⟩
  | dT h rr => cases e; exact call_len_dT pins s σ H [_] [u] Q I rv ⟨_, _, rfl, h, by rw [← rr.length]; exact q _ H w (.refl _ _) g (.int _)⟩
  | str z =>
    simp only [lenF] at e
    split at e
    · rename_i hl
      cases e
      exact call_len_str pins s σ H [_] [u] Q I rv ⟨z, rfl, Nat.le_of_lt (lim_size hl), q _ H w (.refl _ _) g (.int _)⟩
    · cases e
  | _ => cases e

/-! ### tuple(..), list(..) -/
def tupF : D → Option D
  | .lst ds => some (.tup ds)
  | .tup ds => some (.tup ds)
  | .ctp ds => some (.ctp ds)
  | _ => none
theorem cr_tup : CallR X (.type "tuple") (rN X.K .e (f1 tupF)) := by
  refine call1 fun pins s σ H x u Q w S d d' I r g v e q => ?_
  have rv : Vals [x] [u] := .cons r .nil
  cases v with
  | @lst a vs ds h rr => cases e; exact call_tuple_of pins s σ H [_] [u] Q I rv ⟨_, _, rfl, .inl ⟨h, fun p np => q _ _ (w.new p (.tup vs)) (Ext.newF g np) (g.new np) (.tup upd_same (rr.mono (Le.new (g.noneF np))))⟩⟩
  | tup h rr => cases e; exact call_tuple_of pins s σ H [_] [u] Q I rv ⟨_, _, rfl, .inr ⟨SqT.of (g.sub _ _ h), q _ H w (.refl _ _) g (.tup h rr)⟩⟩
  | ctp h rr => cases e; exact call_tuple_of pins s σ H [_] [u] Q I rv ⟨_, _, rfl, .inr ⟨SqT.monoF none_le h, q _ H w (.refl _ _) g (.ctp h rr)⟩⟩
  | _ => cases e
def lstF : D → Option D
  | .lst ds => some (.lst ds)
  | .tup ds => some (.lst ds)
  | .ctp ds => some (.lst ds)
  | .dct kvs => some (.lst (kvs.map (·.1)))
  | _ => none
theorem rep_key {K : PySem.W.Frag} {w : Wit} (k : L2.Key) : Rep K w (kD k) (kV k) := by cases k with
  | inl i => exact .int i
  | inr x => exact .str x
theorem RepK.keys {K : PySem.W.Frag} {w w' : Wit} {ds : List (D × D)} {vs : List (L2.Key × V)} (h : RepK K w ds vs) : Reps K w' (ds.map (·.1)) (vs.map fun kv => kV kv.1) := by
  induction ds generalizing vs with
  | nil => cases h; exact .nil
  | cons d ds ih => cases h with | cons h t => exact .cons (rep_key _) (ih t)
theorem cr_lst (hc : X.calm = true) : CallR X (.type "list") (rN X.K .f (f1 lstF)) := by
  refine call1 fun pins s σ H x u Q w S d d' I r g v e q => ?_
  have rv : Vals [x] [u] := .cons r .nil
  cases v with
  | lst h rr => cases e; exact call_list_of pins s σ H [_] [u] Q I rv ⟨_, _, rfl, .inl h, fun p np => q _ _ w (Ext.newO w np) (g.newO np) ⟨p, rfl, np, g.noneF np, g.nophi np, _, upd_same, rr⟩⟩
  | tup h rr => cases e; exact call_list_of pins s σ H [_] [u] Q I rv ⟨_, _, rfl, .inr (SqT.of (g.sub _ _ h)), fun p np => q _ _ w (Ext.newO w np) (g.newO np) ⟨p, rfl, np, g.noneF np, g.nophi np, _, upd_same, rr⟩⟩
  | ctp h rr => cases e; exact call_list_of pins s σ H [_] [u] Q I rv ⟨_, _, rfl, .inr (SqT.monoF none_le h), fun p np => q _ _ w (Ext.newO w np) (g.newO np) ⟨p, rfl, np, g.noneF np, g.nophi np, _, upd_same, rr⟩⟩
  | dK h rr => cases e; exact call_listD hc pins s σ H [_] [u] Q I rv ⟨_, _, rfl, h, fun p np => q _ _ w (Ext.newO w np) (g.newO np) ⟨p, rfl, np, g.noneF np, g.nophi np, _, upd_same, rr.keys⟩⟩
  | _ => cases e

/-! ### int(..), sum, all, any, min, max -/
def intF : D → Option D
  | .int i => some (.int i)
  | .bl b => some (.int (if b then 1 else 0))
  | _ => none
theorem cr_int : CallR X (.type "int") (rN X.K .e (f1 intF)) := by
  refine call1 fun pins s σ H x u Q w S d d' I r g v e q => ?_
  have rv : Vals [x] [u] := .cons r .nil
  cases v with
  | int i => cases e; exact call_int1 pins s σ H [_] [u] Q I rv (.inl ⟨i, rfl, q _ H w (.refl _ _) g (.int _)⟩)
  | bl b => cases e; exact call_int1 pins s σ H [_] [u] Q I rv (.inr ⟨b, rfl, q _ H w (.refl _ _) g (.int _)⟩)
  | _ => cases e
def intsOf : List D → Option (List Int)
  | [] => some []
  | .int i :: ds => (intsOf ds).map (i :: ·)
  | _ :: _ => none
def blsOf : List D → Option (List Bool)
  | [] => some []
  | .bl i :: ds => (blsOf ds).map (i :: ·)
  | _ :: _ => none
theorem ints_of {K : PySem.W.Frag} {w : Wit} {ds : List D} {vs : List V} (h : Reps K w ds vs) : ∀ {ns : List Int}, intsOf ds = some ns → vs = ns.map V.int := by
  induction ds generalizing vs with
  | nil => intro ns e; cases h; cases e; rfl
  | cons d ds ih =>
    intro ns e
    cases h with
    | cons h t =>
      cases h <;> simp only [intsOf] at e <;> first | cases e | skip
      cases e2 : intsOf ds with
      | none => rw [e2] at e; cases e
      | some ms => rw [e2] at e; cases e; rw [ih t e2]; rfl
theorem bls_of {K : PySem.W.Frag} {w : Wit} {ds : List D} {vs : List V} (h : Reps K w ds vs) : ∀ {ns : List Bool}, blsOf ds = some ns → vs = ns.map V.bl := by
  induction ds generalizing vs with
  | nil => intro ns e; cases h; cases e; rfl
  | cons d ds ih =>
    intro ns e
    cases h with
    | cons h t =>
      cases h <;> simp only [blsOf] at e <;> first | cases e | skip
      cases e2 : blsOf ds with
      | none => rw [e2] at e; cases e
      | some ms => rw [e2] at e; cases e; rw [ih t e2]; rfl
def allF : D → Option D
  | .lst ds => (blsOf ds).map fun ns => .bl (ns.all id)
  | _ => none
def anyF : D → Option D
  | .lst ds => (blsOf ds).map fun ns => .bl (ns.any id)
  | _ => none
theorem cr_allD (hc : X.calm = true) : CallR X (.builtin "all") (rN X.K .e (f1 allF)) := by
  refine call1 fun pins s σ H x u Q w S d d' I r g v e q => ?_
  have rv : Vals [x] [u] := .cons r .nil
  cases v with
  | @lst a vs ds h rr =>
    simp only [allF] at e
    cases e2 : blsOf ds with
    | none => rw [e2] at e; cases e
    | some ns => rw [e2] at e; cases e; exact cr_all hc pins s σ H [_] [u] Q I rv ⟨_, ns, rfl, by rw [← bls_of rr e2]; exact h, q _ H w (.refl _ _) g (.bl _)⟩
  | _ => cases e
theorem cr_anyD (hc : X.calm = true) : CallR X (.builtin "any") (rN X.K .e (f1 anyF)) := by
  refine call1 fun pins s σ H x u Q w S d d' I r g v e q => ?_
  have rv : Vals [x] [u] := .cons r .nil
  cases v with
  | @lst a vs ds h rr =>
    simp only [anyF] at e
    cases e2 : blsOf ds with
    | none => rw [e2] at e; cases e
    | some ns => rw [e2] at e; cases e; exact cr_any hc pins s σ H [_] [u] Q I rv ⟨_, ns, rfl, by rw [← bls_of rr e2]; exact h, q _ H w (.refl _ _) g (.bl _)⟩
  | _ => cases e
def minI : List Int → Int
  | [] => 0
  | [a] => a
  | a :: r => if minI r < a then minI r else a
theorem minI_mem : ∀ {l : List Int}, l ≠ [] → minI l ∈ l
  | [], h => absurd rfl h
  | [a], _ => by simp [minI]
  | a :: b :: r, _ => by
    have := minI_mem (l := b :: r) (by simp)
    simp only [minI]
    split
    · exact List.mem_cons_of_mem _ this
    · exact List.mem_cons_self
theorem minI_le : ∀ {l : List Int} {y : Int}, y ∈ l → minI l ≤ y
  | [], y, h => absurd h (by simp)
  | [a], y, h => by simp at h; subst h; simp [minI]
  | a :: b :: r, y, h => by
    simp only [minI]
    rcases List.mem_cons.mp h with h | h
    · subst h; split <;> omega
    · have := minI_le h; split <;> omega
def minLF : D → Option D
  | .lst ds => match intsOf ds with
    | some (a :: r) => some (.int (minI (a :: r)))
    | _ => none
  | _ => none
end
end DL

/-! sorted, isinstance, displays -/
namespace DL
open PySem PySem.Spec PyProof.Rows L2

/-! ### sorted -/
def sortD (ds : List D) : List D := ds.mergeSort (PySem.W.dataLe false toPy)
def tupNe : D → Bool
  | .tup (_ :: _) => true
  | .ctp (_ :: _) => true
  | _ => false
def scalS : D → Bool
  | .int _ => true
  | .str _ => true
  | .bl _ => true
  | .lst _ => true
  | _ => false
def sortOk (ds : List D) : Bool := plDs ds && ds.all (fun x => ds.all fun y => PySem.W.alike (toPy x) (toPy y)) && (ds.all tupNe || ds.all scalS) && ds.all (fun d => decide ((toPy d).depth ≤ 60)) && decide (ds.length < LIM)
def RSort (K : PySem.W.Frag) (w : Wit) (v : Value) (b : D × V) : Prop := L2.RelV b.2 v ∧ Rep K w b.1 b.2
theorem each_in {K : PySem.W.Frag} {w : Wit} : ∀ {ds : List D} {vs : List V} {us : List Value}, Reps K w ds vs → Vals vs us → PySem.W.EachIs (RSort K w) us (ds.zip vs)
  | _, _, _, .nil, .nil => .nil
  | _, _, _, .cons h t, .cons r s => .cons ⟨r, h⟩ (each_in t s)
theorem each_out {K : PySem.W.Frag} {w : Wit} : ∀ {us : List Value} {bs : List (D × V)}, PySem.W.EachIs (RSort K w) us bs → Reps K w (bs.map (·.1)) (bs.map (·.2)) ∧ Vals (bs.map (·.2)) us
  | _, _, .nil => ⟨.nil, .nil⟩
  | _, _, .cons h t => ⟨.cons h.2 (each_out t).1, .cons h.1 (each_out t).2⟩
theorem each_reads {X : Cx} {pins : List (Addr × Obj)} {σ : L2.St} {H : Hp} {s : Shared} {w : Wit} (I : L2.Inv X pins σ H s) (hs : ∀ a o, w.F a = some o → H a = some o) : ∀ {us : List Value} {bs : List (D × V)}, PySem.W.EachIs (RSort X.K w) us bs → (∀ b ∈ bs, plD b.1 = true) →
    PySem.W.EachIs (fun v b => ∃ as, Reads s.heap v (toPy b.1) as) us bs
  | _, _, .nil, _ => .nil
  | _, _, .cons h t, p => .cons (Dp.reads I _ _ _ (h.2.dp hs (p _ List.mem_cons_self)) h.1) (each_reads I hs t fun b hb => p b (List.mem_cons_of_mem _ hb))
theorem zip_fst {α β : Type} : ∀ {as : List α} {bs : List β}, as.length = bs.length → (as.zip bs).map (·.1) = as
  | [], [], _ => rfl
  | a :: as, b :: bs, h => by simp [zip_fst (as := as) (bs := bs) (by simpa using h)]
section
variable {X : Cx}
end

/-! ### isinstance -/
def tyB : D → Option String
  | .non => some "NoneType"
  | .bl _ => some "bool"
  | .int _ => some "int"
  | .str _ => some "str"
  | .tup _ => some "tuple"
  | .ctp _ => some "tuple"
  | .lst _ => some "list"
  | .dct _ => some "dict"
  | .dtt _ => some "dict"
  | _ => none
def baseTys : List String := ["NoneType", "bool", "int", "str", "tuple", "list", "dict"]
theorem tyB_base {d : D} {t : String} (h : tyB d = some t) : t ∈ baseTys := by
  cases d <;> simp [tyB] at h <;> subst h <;> simp [baseTys]
theorem tyB_tyx {K : PySem.W.Frag} {w : Wit} {H : Hp} (hs : ∀ a o, w.F a = some o → H a = some o) {d : D} {v : V} {t : String} (h : Vw K w H d v) (e : tyB d = some t) : TyX K H v (.type t) := by
  cases h with
  | non => cases e; exact .base .non
  | bl b => cases e; exact .base (.bl b)
  | int b => cases e; exact .base (.int b)
  | str b => cases e; exact .base (.str b)
  | tup h r => cases e; exact .base (.tup (hs _ _ h))
  | ctp h r =>
    cases e
    rcases h with h | ⟨o, its, n, h1, h2, _⟩
    · rcases h with h | ⟨o, h⟩
      · cases (show (none : Option HO) = some _ from h)
      · cases (show (none : Option HO) = some _ from h)
    · exact .kTuple h1 h2
  | lst h r =>
    cases e
    rcases h with h | ⟨o, its, n, h1, h2, _⟩
    · rcases h with h | ⟨o, h⟩
      · exact .base (.lst h)
      · exact .base (.frz h)
    · exact .kList h1 h2
  | dK h r =>
    cases e
    rcases h with h | ⟨o, h⟩
    · exact .base (.dK h)
    · exact .fDict h
  | dT h r => cases e; exact .base (.dT h)
  | _ => cases e
/-- what isinstance needs to know of an own class -/
structure ClsI (K : PySem.W.Frag) (c : Str) : Prop where
  cls : Cls K (He.ga K c)
  fc : PySem.W.findIn K (.ref (He.ga K c)) (Str.ofString "__class__") = some (some (.builtin "object.__class__"))
  sg : PySem.W.specialIn K (.builtin "object.__class__") (Str.ofString "__get__") = some (some (.builtin "getset_descriptor.__get__"))
  tk : PySem.W.takesIn K (.builtin "object.__class__") = some true
  mro : PySem.W.mroIn K (He.ga K c) (.type "object") = some true
def isF (tb : String → Bool) (to : Str → Option Bool) (d : D) : Option D := match d with
  | .ins c _ => (to c).map .bl
  | d => (tyB d).map fun t => .bl (tb t)
structure IsK (K : PySem.W.Frag) (us : List Value) (tb : String → Bool) (to : Str → Option Bool) : Prop where
  base : ∀ t ∈ baseTys, PySem.W.kitAny K (.type t) us = some (tb t)
  own : ∀ c b, to c = some b → ClsI K c ∧ PySem.W.kitAny K (.ref (He.ga K c)) us = some b
theorem is_of {K : PySem.W.Frag} {w : Wit} {H : Hp} {us : List Value} {tb : String → Bool} {to : Str → Option Bool} (hk : IsK K us tb to) (hs : ∀ a o, w.F a = some o → H a = some o) {d d' : D} {v : V} (h : Vw K w H d v) (e : isF tb to d = some d') :
    ∃ t b, TyX K H v t ∧ PySem.W.kitAny K t us = some b ∧ d' = .bl b := by
  by_cases hi : ∃ c fs, d = .ins c fs
  · obtain ⟨c, fs, rfl⟩ := hi
    cases h with
    | ins h r =>
      simp only [isF] at e
      cases e2 : to c with
      | none => rw [e2] at e; cases e
      | some b =>
        rw [e2] at e; cases e
        obtain ⟨k1, k2⟩ := hk.own c b e2
        exact ⟨_, b, .base (.ins h k1.cls k1.fc k1.sg k1.tk k1.mro), k2, rfl⟩
  · have e' : (tyB d).map (fun t => D.bl (tb t)) = some d' := by
      cases d <;> first | exact absurd ⟨_, _, rfl⟩ hi | exact e
    cases e2 : tyB d with
    | none => rw [e2] at e'; cases e'
    | some t =>
      rw [e2] at e'; cases e'
      exact ⟨_, _, tyB_tyx hs h e2, hk.base t (tyB_base e2), rfl⟩
theorem kitAny_one {K : PySem.W.Frag} {t u : Value} {b : Bool} (h : PySem.W.kitAny K t [u] = some b) : PySem.W.kitOne K t u = some b := by
  unfold PySem.W.kitAny at h
  cases e : PySem.W.kitOne K t u with
  | none => simp [e] at h
  | some c => cases c <;> simp [e, PySem.W.kitAny] at h <;> simp [h]
section
variable {X : Cx} {W : WZ} {O : List Nat} {a T : Expr} {fa : EF} {k : Kd} {p pos : Pos} {c : V} {u : Value} {tb : String → Bool} {to : Str → Option Bool}
theorem de_isi (hk : IsK X.K [u] tb to) (ha : DE k X W O a fa) (hT : PE X T (tC c)) (hc : ClsV c u) (hm : X.mg "isinstance" = none) (hg : Gl X "isinstance" := by rfl) (hs : starEach [a, T] X.env = (false, eval a X.env) :: starEach [T] X.env := by rfl) (hs2 : starEach [T] X.env = (false, eval T X.env) :: starEach [] X.env := by rfl) (hpl : (backTo pos (starEach [T] X.env)).any (·.1) = false := by rfl) :
    DE .e X W O (.Call (.Name "isinstance" p) [a, T] [] pos) (e1 (isF tb to) fa) := by
  refine ⟨(pe_callB call_isi hg hm (by rfl) (pa_cons ha.pe (pa_cons hT pa_nil hs2) hs) (by decide) (by decide) hs hpl).imp ?_⟩
  rintro σ H Q ⟨ent, w, ρ, S, r, p⟩
  refine ⟨ent, w, ρ, S, r, p.bind fun d S1 v H1 w1 x g1 z p1 => ?_⟩
  have v1 := (z.ext (H1 := H1) (.refl _ _)).vw g1
  cases e : isF tb to (deref S1 d) with
  | none => rw [e] at p1; exact p1.elim
  | some d' =>
    rw [e] at p1
    obtain ⟨t, b, ty, kk, rfl⟩ := is_of hk g1.sub v1 e
    exact ⟨v, c, t, u, b, rfl, hc, ty, kitAny_one kk, p1 _ H1 w1 (.refl _ _) g1 (.bl b)⟩
/-- constants -/
def tCs (cs : List V) : TA := fun _ H Q => Q cs H
theorem Paired.len {α β : Type} {F : α → β → Prop} : ∀ {l : List α} {m : List β}, Paired F l m → l.length = m.length
  | _, _, .nil => rfl
  | _, _, .cons _ t => by simp [Paired.len t]
theorem de_isiT {Ts : List Expr} {cs : List V} {us : List Value} {j : Nat} {tpos : Pos} (hk : IsK X.K us tb to) (ha : DE k X W O a fa) (hT : PA X Ts (tCs cs)) (hc : Paired ClsV cs us) (hz : cs.length ≤ 1000 := by decide) (hm : X.mg "isinstance" = none) (hg : Gl X "isinstance" := by rfl)
    (hs : starEach [a, .Tuple Ts j tpos] X.env = (false, eval a X.env) :: starEach [.Tuple Ts j tpos] X.env := by rfl) (hs2 : starEach [.Tuple Ts j tpos] X.env = (false, eval (.Tuple Ts j tpos) X.env) :: starEach [] X.env := by rfl) (hpl : (backTo pos (starEach [.Tuple Ts j tpos] X.env)).any (·.1) = false := by rfl) :
    DE .e X W O (.Call (.Name "isinstance" p) [a, .Tuple Ts j tpos] [] pos) (e1 (isF tb to) fa) := by
  refine ⟨(pe_callB call_isiT hg hm (by rfl) (pa_cons ha.pe (pa_cons (pe_tup hT) pa_nil hs2) hs) (by decide) (by decide) hs hpl).imp ?_⟩
  rintro σ H Q ⟨ent, w, ρ, S, r, p⟩
  refine ⟨ent, w, ρ, S, r, p.bind fun d S1 v H1 w1 x g1 z p1 => ?_⟩
  refine ⟨Nat.le_trans hz (by decide), fun tp np => ?_⟩
  have x2 := Ext.newF (o := .tup cs) g1 np
  have g2 := g1.new (o := .tup cs) np
  have v1 := (z.ext (H1 := H1) x2).vw g2
  cases e : isF tb to (deref S1 d) with
  | none => rw [e] at p1; exact p1.elim
  | some d' =>
    rw [e] at p1
    obtain ⟨t, b, ty, kk, rfl⟩ := is_of hk g2.sub v1 e
    exact ⟨v, tp, cs, t, us, b, rfl, upd_same, hc, ty, kk, p1 _ _ _ x2 g2 (.bl b)⟩
end

/-! ### displays -/
def eTup (f : AF) : EF := fun ρ S => match f ρ S with
  | .ok ds S1 => if ds.length < LIM then .ok (.tup ds) S1 else .stuck
  | .exn x S1 => .exn x S1
  | .stuck => .stuck
def eLst (f : AF) : EF := fun ρ S => match f ρ S with
  | .ok ds S1 => if ds.length < LIM then .ok (.lst ds) S1 else .stuck
  | .exn x S1 => .exn x S1
  | .stuck => .stuck
section
variable {X : Cx} {W : WZ} {O : List Nat} {es : List Expr} {e : Expr} {fa : AF} {f : EF} {k : Kd} {pos p : Pos} {j : Nat}
theorem tup_of {K : PySem.W.Frag} : ∀ σ H Q, rd K .e W O (eTup fa) σ H Q → tTup (rdA K (PRep K) W O fa) σ H Q := by
  rintro σ H Q ⟨ent, w, ρ, S, r, p⟩
  refine ⟨ent, w, ρ, S, r, ?_⟩
  unfold eTup at p
  cases e : fa ρ S with
  | stuck => rw [e] at p; exact p
  | exn x S1 => rw [e] at p; exact p
  | ok ds S1 =>
    rw [e] at p
    intro vs H1 w1 x1 g1 z
    dsimp only at p
    have z : Reps K w1 ds vs := z
    split at p
    · rename_i hl
      refine ⟨by rw [← z.length]; exact Nat.le_of_lt (lim_size hl), fun a na => ?_⟩
      exact p _ _ (w1.new a (.tup vs)) (x1.trans (Ext.newF g1 na)) (g1.new na) (.tup upd_same (z.mono (Le.new (g1.noneF na))))
    · exact p.elim
theorem lst_of {K : PySem.W.Frag} : ∀ σ H Q, rd K .f W O (eLst fa) σ H Q → tLst (rdA K (PRep K) W O fa) σ H Q := by
  rintro σ H Q ⟨ent, w, ρ, S, r, p⟩
  refine ⟨ent, w, ρ, S, r, ?_⟩
  unfold eLst at p
  cases e : fa ρ S with
  | stuck => rw [e] at p; exact p
  | exn x S1 => rw [e] at p; exact p
  | ok ds S1 =>
    rw [e] at p
    intro vs H1 w1 x1 g1 z
    dsimp only at p
    have z : Reps K w1 ds vs := z
    split at p
    · rename_i hl
      refine ⟨by rw [← z.length]; exact Nat.le_of_lt (lim_size hl), fun a na => ?_⟩
      have x2 := x1.trans (Ext.newO (o := .lst vs) w1 na)
      refine p _ _ w1 x2 (g1.newO na) ⟨a, rfl, ?_, g1.noneF na, g1.nophi na, _, upd_same, z⟩
      exact x1.there a (.inl na)
    · exact p.elim
theorem de_tup (ha : DA X W O es fa) : DE .e X W O (.Tuple es j pos) (eTup fa) := ⟨(pe_tup ha.pa).imp tup_of⟩
theorem de_lst (ha : DA X W O es fa) : DE .f X W O (.List es pos) (eLst fa) := ⟨(pe_lst ha.pa).imp lst_of⟩
/-- *e, .. -/
def itemsD : D → Option (List D)
  | .lst ds => some ds
  | .tup ds => some ds
  | .ctp ds => some ds
  | _ => none
def aStar (f : EF) (g : AF) : AF := fun ρ S => match f ρ S with
  | .ok d S1 => (match itemsD (deref S1 d) with
    | some xs => (match g ρ S1 with
      | .ok ds S2 => .ok (xs ++ ds) S2
      | .exn x S2 => .exn x S2
      | .stuck => .stuck)
    | none => .stuck)
  | .exn x S1 => .exn x S1
  | .stuck => .stuck
theorem da_star (ha : DE k X W O e f) (hr : DA X W O es fa) (hs : starEach (.Starred e p :: es) X.env = (true, eval e X.env) :: starEach es X.env := by rfl) : DA X W O (.Starred e p :: es) (aStar f fa) := by
  refine ⟨(StX.pa_star ha.pe hr.pa hs).imp ?_⟩
  rintro σ H Q ⟨ent, w, ρ, S, r, p⟩
  refine ⟨ent, w, ρ, S, r, ?_⟩
  unfold aStar at p
  cases e1 : f ρ S with
  | stuck => rw [e1] at p; exact p
  | exn x S1 => rw [e1] at p; exact p
  | ok d S1 =>
    rw [e1] at p
    refine fun v H1 w1 x1 g1 z1 => ?_
    have v1 := (z1.ext (H1 := H1) (.refl _ _)).vw g1
    dsimp only at p
    have fin : ∀ (xs : List D) (vs : List V), Reps X.K w1 xs vs → PostA X.K (PRep X.K) w H W σ (match fa ρ S1 with
      | .ok ds S2 => .ok (xs ++ ds) S2
      | .exn x S2 => .exn x S2
      | .stuck => .stuck) Q → rdA X.K (PRep X.K) W O fa σ H1 fun ys H2 => Q (vs ++ ys) H2 := by
      intro xs vs rx p
      refine ⟨ent, w1, ρ, S1, r.later x1 g1, ?_⟩
      cases e2 : fa ρ S1 with
      | stuck => rw [e2] at p; exact p
      | exn x S2 => rw [e2] at p; exact fun cls dx H' w' y g' h => p cls dx H' w' (x1.trans y) g' h
      | ok ds S2 =>
        rw [e2] at p
        exact fun ys H2 w2 x2 g2 z2 => p _ H2 w2 (x1.trans x2) g2 ((rx.mono x2.le).append z2)
    generalize deref S1 d = D1 at v1 p
    cases v1 with
    | lst h rr => exact ⟨_, _, rfl, .inr h, fin _ _ rr p⟩
    | tup h rr => exact ⟨_, _, rfl, .inl (SqT.of (g1.sub _ _ h)), fin _ _ rr p⟩
    | ctp h rr => exact ⟨_, _, rfl, .inl (SqT.monoF none_le h), fin _ _ rr p⟩
    | _ => exact p.elim
end
end DL

/-! enumerate, zip, texts walked -/
namespace DL
open PySem PySem.Spec PyProof.Rows L2

/-! ### enumerate of a tuple -/
def IteT (K : PySem.W.Frag) (a : Addr) : It where
  go := fun i H => ∃ xs x, SqT K H a xs ∧ xs[i]? = some x
  yld := fun i H v H' => ∃ T x, v = .ref T ∧ H T = none ∧ H' = upd H T (.tup [.int (i : Int), x]) ∧ ∀ xs, SqT K H a xs → xs[i]? = some x
  stop := fun i H => ∃ xs, SqT K H a xs ∧ xs.length = i
theorem vals_get {vs : List V} {us : List Value} (h : Vals vs us) : ∀ {i : Nat} {v : V}, vs[i]? = some v → ∃ u, us[i]? = some u ∧ L2.RelV v u := by
  induction h with
  | nil => intro i v e; simp at e
  | cons h t ih =>
    intro i v e
    cases i with
    | zero => simp at e; subst e; exact ⟨_, rfl, h⟩
    | succ i => exact ih (by simpa using e)
theorem turn_enumT {P : Program} {w : World} {K : PySem.W.Frag} {elts : List Expr} {kk : Nat} {tpos : Pos} (a e it : Addr) :
    Turn P w K (.Tuple elts kk tpos) (IteT K a) [e, it] e (fun i h => (∃ old, IsEnum h e it (i : Int) old) ∧ h.IsTupleIter it a i ∧ e ≠ it) where
  mem := by simp
  obj := fun i h ⟨⟨old, he⟩, ⟨o, ho, hc, hd⟩, _⟩ b hb => by
    simp at hb
    rcases hb with rfl | rfl
    · exact ⟨_, he, fun v => by simp⟩
    · exact ⟨o, ho, fun v => by rw [hd]; simp⟩
  keep := fun i h h' ⟨⟨old, he⟩, ⟨o, ho, hc, hd⟩, hne⟩ hk => ⟨⟨old, hk e (by simp) _ he⟩, ⟨o, hk it (by simp) _ ho, hc, hd⟩, hne⟩
  item := by
    rintro X rfl rfl rfl hc i pins s σ H E I hf ⟨⟨old, he⟩, hi, hne⟩ ⟨xs, x, hq, hx⟩
    obtain ⟨its, rv, ht, hz⟩ := I.tuple hq
    obtain ⟨o, ho, oc, n, od⟩ := ht
    have hh : X.A.handled = none := I.ok.hd hc
    have nai : a ≠ it := by
      rintro rfl
      obtain ⟨o2, ho2, hc2, _⟩ := hi
      rw [ho] at ho2; cases ho2
      rw [oc] at hc2; exact absurd hc2 (by simp)
    have nae : a ≠ e := by
      rintro rfl
      have he' : s.heap.get? a = _ := he
      rw [ho] at he'; cases he'
      exact absurd oc (by simp)
    have dr := Draws.tuple (prog := X.prog) (w := X.w) (A := X.A.in1) hh it a nai its.toArray
    have wt := WalksT.enumerateD dr e hne (by simp [hne, Ne.symm nae]) (by simp)
    obtain ⟨u, hu, ru⟩ := vals_get rv hx
    have hlen : i < its.toArray.size := by
      have := (List.getElem?_eq_some_iff.mp hu).1
      simpa using this
    refine wt.item i s _ E hlen ⟨⟨old, he⟩, hi, ⟨o, ho, oc, n, od⟩⟩ fun T vals h' tk pt ts tt mid fr => ⟨.ref T, rfl, ?_⟩
    obtain ⟨t, y, hy, rfl⟩ := pt
    refine wt.go elts kk tpos i T _ _ E mid fun h2 st fr2 => ?_
    have eyu : y = u := by
      have : its[i]? = some y := by simpa using hy
      rw [hu] at this; cases this; rfl
    subst eyu
    have hT : H T = none := I.hok.fresh ts
    have nT := wt.apart i T h' mid
    obtain ⟨ot, hot, otc, otn, otd⟩ := tt
    have ht2 := fr2 T ot nT hot
    have I2 := I.turnedNew (h' := h2) (t' := tk) (ch := [e, it]) (T := T) (ob := .tup [.int (i : Int), x]) (fun b o hb ho => fr2 b o hb (fr b o hb ho)) (fun b hb => hf b hb) ts (by
      unfold ObjOk
      exact ⟨Nat.le_trans (by simp : [V.int (i : Int), x].length ≤ 2) (by decide), [.int (i : Int) t, y], .cons ⟨t, rfl⟩ (.cons ru .nil), ot, ht2, otc, otn, otd⟩)
    refine ⟨.ref T, _, I2, rfl, ⟨T, x, rfl, hT, rfl, fun ys hys => ?_⟩, ⟨st.1.imp fun _ z => by exact_mod_cast z, st.2.1, hne⟩, fun b hb => ?_⟩
    · rw [I.tuple_inj hys hq]; exact hx
    · have hn : b ≠ T := fun z => nT (z ▸ hb)
      rw [upd_ne hn]
      exact (hf b hb).1
  done := by
    rintro X rfl rfl rfl hc i pins s σ H E I hf ⟨⟨old, he⟩, hi, hne⟩ ⟨xs, hq, hx⟩
    obtain ⟨its, rv, ht, hz⟩ := I.tuple hq
    obtain ⟨o, ho, oc, n, od⟩ := ht
    have hh : X.A.handled = none := I.ok.hd hc
    have nai : a ≠ it := by
      rintro rfl
      obtain ⟨o2, ho2, hc2, _⟩ := hi
      rw [ho] at ho2; cases ho2
      rw [oc] at hc2; exact absurd hc2 (by simp)
    have nae : a ≠ e := by
      rintro rfl
      have he' : s.heap.get? a = _ := he
      rw [ho] at he'; cases he'
      exact absurd oc (by simp)
    have dr := Draws.tuple (prog := X.prog) (w := X.w) (A := X.A.in1) hh it a nai its.toArray
    have wt := WalksT.enumerateD dr e hne (by simp [hne, Ne.symm nae]) (by simp)
    have hl : its.toArray.size = i := by
      have := rv.length
      simp; omega
    refine wt.done s _ E (by rw [hl]; exact ⟨⟨old, he⟩, hi, ⟨o, ho, oc, n, od⟩⟩) fun h' tk fr => ⟨rfl, ?_⟩
    exact I.turnedL (ch := [e, it]) (fun b o hb ho => fr b o hb ho) fun b hb => hf b hb
  self := fun A i s Q E ⟨⟨_, he⟩, _⟩ q => wpAny_pyIter_enum he q
end DL
namespace PySem
open Sem (wp)
open AutoSeq1 (wpAny_loadPart')
theorem meets_enumerate_newT (l : Addr) (items : Array Value) (n : Nat) (dct : Option Addr) (sl : Array (Option Value)) :
    Meets (Builtin.«enumerate.__new__» ⟨[.type "enumerate", .ref l], []⟩) (fun _ R s => s.heap.get? l = some { cls := .type "tuple", dict := dct, data := .seq items n, slots := sl } ∧
      R (.ok (.ret (.ref (s.heap.push { cls := .type "tuple_iterator", data := .fields #[.ref l, .int 0 0] }).objs.size)))
        { s with heap := (s.heap.push { cls := .type "tuple_iterator", data := .fields #[.ref l, .int 0 0] }).push { cls := .type "enumerate", data := .fields #[.none, .bool false, .ref s.heap.objs.size, rawInt 0, .none, .none] } }) :=
  .of_wp fun prog w A R s h => by
    obtain ⟨hp, g, d, tk, os⟩ := s; obtain ⟨hl, h⟩ := h
    have hsub := sub_enumerate
    have hL : Heap.IsTuple (Shared.heap ⟨hp, g, d, tk, os⟩) l items := ⟨_, hl, rfl, n, rfl⟩
    wp_walk using wpAny_loadPart' hl
    refine wpAny_stack_any fun st => wpAny_pure ?_
    split
    · rename_i c _ _ _ _ _
      cases (c == Value.type "enumerate")
      · wp_walk using wpAny_loadPart' hl, wpAny_pyIter_tuple hL
        exact ⟨_, rfl, h⟩
      · wp_walk using wpAny_loadPart' hl, wpAny_pyIter_tuple hL
        exact ⟨_, rfl, h⟩
    · wp_walk using wpAny_loadPart' hl, wpAny_pyIter_tuple hL
      exact ⟨_, rfl, h⟩
section
variable {prog : Program} {w : World} {A : Around} {E : Value → Shared → Prop} {s : Shared}
theorem call_enumerate_tupleD {l : Addr} {items : Array Value} {Q : Value → Shared → Prop} (hL : s.heap.IsTuple l items)
    (h : ∀ h', IsEnum h' (s.heap.objs.size + 1) s.heap.objs.size 0 .none → h'.IsTupleIter s.heap.objs.size l 0 → h'.objs.size = s.heap.objs.size + 2 →
      (∀ b o, s.heap.get? b = some o → h'.get? b = some o) → Q (.ref (s.heap.objs.size + 1)) { s with heap := h' }) :
    wpAny (model prog w) A (call (.type "enumerate") [.ref l]) Q E s := by
  obtain ⟨⟨c, dct, dt, sl⟩, hl, hc, n, hd⟩ := hL
  replace hc : c = .type "tuple" := hc
  replace hd : dt = .seq items n := hd
  subst hc hd
  refine callType_new F.called_enumerate (by decide) (F.typeCall_enumerate_1 _) (F.newCall_enumerate_1 _) (fun obj => F.args_object_init_2 obj _) F.entry_enumerate_new
    (meets_enumerate_newT l items n dct sl) ⟨hl, ?_⟩
  have hz : (s.heap.push { cls := .type "tuple_iterator", data := .fields #[.ref l, .int 0 0] }).objs.size = s.heap.objs.size + 1 := Heap.size_push ..
  show _ ∧ _
  rw [hz]
  have he : IsEnum ((s.heap.push { cls := .type "tuple_iterator", data := .fields #[.ref l, .int 0 0] }).push
      { cls := .type "enumerate", data := .fields #[.none, .bool false, .ref s.heap.objs.size, rawInt 0, .none, .none] }) (s.heap.objs.size + 1) s.heap.objs.size 0 .none := by
    have := Heap.get?_push_size (s.heap.push { cls := .type "tuple_iterator", data := .fields #[.ref l, .int 0 0] })
      (o := { cls := .type "enumerate", data := .fields #[.none, .bool false, .ref s.heap.objs.size, rawInt 0, .none, .none] }) rfl
    rw [hz] at this; exact this
  refine ⟨⟨_, he, rfl⟩, h _ he ⟨_, Heap.get?_push_of_some _ (Heap.get?_push_size _ rfl), rfl, rfl⟩ (by rw [Heap.size_push, hz]) fun b o x => Heap.get?_push_of_some _ (Heap.get?_push_of_some _ x)⟩
end
end PySem
namespace DL
open PySem PySem.Spec PyProof.Rows L2
theorem pi_enumT {X : Cx} {e : Expr} {ta : TA} {p pos tpos : Pos} {elts : List Expr} {kk : Nat} (hg : Gl X "enumerate") (hm : X.mg "enumerate" = none) (ha : PA X [e] ta) (hs : starEach [e] X.env = [(false, eval e X.env)] := by rfl) :
    PI X (.Tuple elts kk tpos) (.Call (.Name "enumerate" p) [e] [] pos) (fun σ H R => ta σ H fun vs H1 => ∃ a xs, vs = [.ref a] ∧ SqT X.K H1 a xs ∧ R (IteT X.K a) H1) := by
  refine ⟨fun pins s σ H R I h => ?_⟩
  refine Call_ (ld_blt I hg hm boot_enumerate (PyProof.Rows.callWith_type1 (thn (ha.run pos pins s σ H _ I h) fun us s1 ⟨vs, H1, I1, r1, q1⟩ => ?_) hs rfl))
  obtain ⟨a, xs, ex, hq, q⟩ := q1
  subst ex
  cases r1 with
  | cons r rr =>
    cases rr
    cases r
    obtain ⟨its, rv, p', hz⟩ := I1.tuple hq
    refine call_enumerate_tupleD p' fun h' he hit hsz hk => wpAny_pyIter_enum he ?_
    have I2 : L2.Inv X pins σ H1 { s1 with heap := h' } := I1.kept (t' := s1.toks) hk
    refine ⟨s1.heap.objs.size + 1, [s1.heap.objs.size + 1, s1.heap.objs.size], _, _, H1, rfl, I2, turn_enumT a (s1.heap.objs.size + 1) s1.heap.objs.size, ⟨⟨.none, he⟩, hit, Nat.succ_ne_self _⟩, fun b hb => ?_, q⟩
    have e' : b = s1.heap.objs.size + 1 ∨ b = s1.heap.objs.size := by simpa using hb
    have hle : s1.heap.objs.size ≤ b := by
      rcases e' with z | z
      · rw [z]; exact Nat.le_add_right _ _
      · rw [z]; exact Nat.le_refl _
    exact I1.fpOk hle (I1.hok.fresh hle)
end DL
namespace DL
open PySem PySem.Spec PyProof.Rows L2
def enD : Nat → List D → List D
  | _, [] => []
  | k, d :: ds => .tup [.int (k : Int), d] :: enD (k + 1) ds
theorem enD_get : ∀ (k : Nat) (ds : List D) (i : Nat), (enD k ds)[i]? = ds[i]?.map fun d => .tup [.int ((k + i : Nat) : Int), d]
  | k, [], i => by simp [enD]
  | k, d :: ds, 0 => by simp [enD]
  | k, d :: ds, i + 1 => by
    simp only [enD, List.getElem?_cons_succ, enD_get (k + 1) ds i]
    have : k + 1 + i = k + (i + 1) := by omega
    rw [this]
theorem enD_len : ∀ (k : Nat) (ds : List D), (enD k ds).length = ds.length
  | _, [] => rfl
  | k, d :: ds => by simp [enD, enD_len (k + 1) ds]
section
variable {K : PySem.W.Frag} {w : Wit} {a b : Addr} {vs us : List V} {ds es : List D}
theorem itok_en (h : SqL K w.F a vs) (r : Reps K w ds vs) : ItOk K w (Ite K a) (enD 0 ds) := fun w' H' S' i l g => by
  have hq : SqL K H' a vs := SqL.monoF g.sub (SqL.monoF l.F h)
  refine ⟨fun d e => ?_, fun hl => ⟨vs, hq, by rw [← r.length]; rw [enD_len] at hl; exact Nat.le_of_eq hl.symm⟩⟩
  rw [enD_get] at e
  cases e1 : ds[i]? with
  | none => rw [e1] at e; cases e
  | some d' =>
    rw [e1] at e; cases e
    obtain ⟨v, ev, rv⟩ := r.get e1
    refine ⟨⟨vs, v, hq, ev⟩, fun x H2 y => ?_⟩
    obtain ⟨T, x', rfl, nT, rfl, y⟩ := y
    have := y vs hq
    rw [ev] at this; cases this
    refine ⟨w'.new T (.tup [.int (i : Int), v]), Ext.newF g nT, g.new nT, .tup upd_same (.cons ?_ (.cons ((rv.mono l).mono (Le.new (g.noneF nT))) .nil))⟩
    simp only [Nat.zero_add]
    exact .int _
theorem itok_enT (h : SqT K w.F a vs) (r : Reps K w ds vs) : ItOk K w (IteT K a) (enD 0 ds) := fun w' H' S' i l g => by
  have hq : SqT K H' a vs := SqT.monoF g.sub (SqT.monoF l.F h)
  refine ⟨fun d e => ?_, fun hl => ⟨vs, hq, by rw [← r.length]; rw [enD_len] at hl; exact hl.symm⟩⟩
  rw [enD_get] at e
  cases e1 : ds[i]? with
  | none => rw [e1] at e; cases e
  | some d' =>
    rw [e1] at e; cases e
    obtain ⟨v, ev, rv⟩ := r.get e1
    refine ⟨⟨vs, v, hq, ev⟩, fun x H2 y => ?_⟩
    obtain ⟨T, x', rfl, nT, rfl, y⟩ := y
    have := y vs hq
    rw [ev] at this; cases this
    refine ⟨w'.new T (.tup [.int (i : Int), v]), Ext.newF g nT, g.new nT, .tup upd_same (.cons ?_ (.cons ((rv.mono l).mono (Le.new (g.noneF nT))) .nil))⟩
    simp only [Nat.zero_add]
    exact .int _
def chD (x : Str) : List D := x.cps.toList.map fun c => .str ⟨#[c]⟩
theorem itok_str (x : Str) : ItOk K w (Its x) (chD x) := fun w' H' S' i l g => by
  refine ⟨fun d e => ?_, fun hl => (by simpa [chD] using Nat.le_of_eq hl.symm : x.cps.size ≤ i)⟩
  have hi : i < x.cps.size := by have := (List.getElem?_eq_some_iff.mp e).1; simpa [chD] using this
  refine ⟨hi, fun v H2 y => ?_⟩
  obtain ⟨rfl, c, hc, rfl⟩ := y
  refine ⟨w', .refl _ _, g, ?_⟩
  unfold chD at e
  rw [List.getElem?_map, Array.getElem?_toList, hc] at e
  cases e
  exact .str _
end
def iEn (f : AF) : IF := fun ρ S => match f ρ S with
  | .ok [d] S1 => (match itemsD d with
    | some ds => if ds.length < LIM then .ok (enD 0 ds) S1 else .stuck
    | none => .stuck)
  | .ok _ _ => .stuck
  | .exn x S1 => .exn x S1
  | .stuck => .stuck
def iStr (f : EF) : IF := fun ρ S => match f ρ S with
  | .ok (.str x) S1 => if x.length < LIM then .ok (chD x) S1 else .stuck
  | .ok _ _ => .stuck
  | .exn x S1 => .exn x S1
  | .stuck => .stuck
theorem itemsD_some {d : D} {ds : List D} (h : itemsD d = some ds) : d = .lst ds ∨ d = .tup ds ∨ d = .ctp ds := by
  cases d <;> simp [itemsD] at h <;> subst h <;> simp
section
variable {X : Cx} {W : WZ} {O : List Nat} {tg e e' : Expr} {es : List Expr} {f : EF} {fa : AF} {k : Kd} {elts : List Expr} {kk : Nat} {p pos tpos : Pos}
theorem di_str (he : DE k X W O e f) : DI X W O tg e (iStr f) := by
  refine ⟨(pi_str he.pe).imp ?_⟩
  rintro σ H Q ⟨ent, w, ρ, S, r, p⟩
  refine ⟨ent, w, ρ, S, r, ?_⟩
  unfold iStr at p
  cases e1 : f ρ S with
  | stuck => rw [e1] at p; exact p
  | exn x S1 => rw [e1] at p; exact p
  | ok d S1 =>
    rw [e1] at p
    intro v H1 w1 x1 g1 z
    cases d with
    | str x =>
      have vw := (z.ext (H1 := H1) (.refl _ _)).vw g1
      cases vw
      dsimp only at p
      split at p
      · rename_i hl
        exact ⟨x, rfl, p _ H1 w1 x1 g1 (itok_str x) (by unfold chD; rw [List.length_map, Array.length_toList]; exact Nat.le_of_lt (lim_size hl))⟩
      · exact p.elim
    | _ => exact p.elim
theorem di_en (ha : DA X W O [e] fa) (hm : X.mg "enumerate" = none) (hg : Gl X "enumerate" := by rfl) (hs : starEach [e] X.env = [(false, eval e X.env)] := by rfl) : DI X W O (.Tuple elts kk tpos) (.Call (.Name "enumerate" p) [e] [] pos) (iEn fa) := by
  refine ⟨((pi_enum hg hm ha.pa hs).or (pi_enumT hg hm ha.pa hs)).imp ?_⟩
  rintro σ H Q ⟨ent, w, ρ, S, r, p⟩
  unfold iEn at p
  cases e1 : fa ρ S with
  | stuck => rw [e1] at p; exact p.elim
  | exn x S1 => rw [e1] at p; exact .inl ⟨ent, w, ρ, S, r, by rw [e1]; exact p⟩
  | ok ds S1 =>
    rw [e1] at p
    match ds, p with
    | [d], p =>
      dsimp only at p
      cases e2 : itemsD d with
      | none => rw [e2] at p; exact p.elim
      | some xs =>
        rw [e2] at p
        dsimp only at p
        split at p
        · rename_i hl
          have hz : (enD 0 xs).length ≤ sizeLine := by rw [enD_len]; exact Nat.le_of_lt (lim_size hl)
          rcases itemsD_some e2 with rfl | rfl | rfl
          · refine .inl ⟨ent, w, ρ, S, r, ?_⟩
            rw [e1]
            intro vs H1 w1 x1 g1 z
            cases z with
            | cons h t =>
              cases t
              cases h with
              | lst h rr => exact ⟨_, _, rfl, SqL.monoF g1.sub h, p _ H1 w1 x1 g1 (itok_en h rr) hz⟩
          · refine .inr ⟨ent, w, ρ, S, r, ?_⟩
            rw [e1]
            intro vs H1 w1 x1 g1 z
            cases z with
            | cons h t =>
              cases t
              cases h with
              | tup h rr => exact ⟨_, _, rfl, SqT.of (g1.sub _ _ h), p _ H1 w1 x1 g1 (itok_enT (SqT.of h) rr) hz⟩
          · refine .inr ⟨ent, w, ρ, S, r, ?_⟩
            rw [e1]
            intro vs H1 w1 x1 g1 z
            cases z with
            | cons h t =>
              cases t
              cases h with
              | ctp h rr => exact ⟨_, _, rfl, SqT.monoF none_le h, p _ H1 w1 x1 g1 (itok_enT (SqT.monoF none_le h) rr) hz⟩
        · exact p.elim
    | [], p => exact p.elim
    | _ :: _ :: _, p => exact p.elim
end
end DL

/-! several names at once; what is changed in place -/
namespace DL
open PySem PySem.Spec PyProof.Rows L2

/-! ### expressions of several kinds -/
inductive KPL (K : PySem.W.Frag) : List Kd → Hp → Wit → Hp → List D → List V → List Addr → Prop
  | nil {H0 : Hp} {w : Wit} {H : Hp} : KPL K [] H0 w H [] [] []
  | e {ks : List Kd} {H0 : Hp} {w : Wit} {H : Hp} {ds : List D} {vs : List V} {L : List Addr} {d : D} {v : V} (h : Rep K w d v) (t : KPL K ks H0 w H ds vs L) : KPL K (.e :: ks) H0 w H (d :: ds) (v :: vs) L
  | f {ks : List Kd} {H0 : Hp} {w : Wit} {H : Hp} {ds : List D} {vs : List V} {L : List Addr} {d : D} {a : Addr} (n : Nb (H0 a)) (h : Own K w H d a) (na : a ∉ L) (t : KPL K ks H0 w H ds vs L) : KPL K (.f :: ks) H0 w H (d :: ds) (.ref a :: vs) (a :: L)
theorem KPL.later {K : PySem.W.Frag} {ks : List Kd} {w w1 w' : Wit} {H H1 H' : Hp} {ds : List D} {vs : List V} {L : List Addr} (x : Ext w H w1 H1) (h : KPL K ks H1 w' H' ds vs L) : KPL K ks H w' H' ds vs L := by
  induction h with
  | nil => exact .nil
  | e h t ih => exact .e h (ih x)
  | @f ks H0 w H ds vs L d a n h na t ih =>
    exact .f (x.there a n) h na (ih x)
theorem KPL.none {K : PySem.W.Frag} {ks : List Kd} {w' : Wit} {H H' : Hp} {ds : List D} {vs : List V} {L : List Addr} (h : KPL K ks H w' H' ds vs L) : ∀ a ∈ L, Nb (H a) := by
  induction h with
  | nil => intro a h; exact absurd h (by simp)
  | e h t ih => exact ih
  | f n h na t ih =>
    intro b hb
    rcases List.mem_cons.mp hb with rfl | hb
    · exact n
    · exact ih b hb
theorem KPL.len {K : PySem.W.Frag} {ks : List Kd} {w' : Wit} {H H' : Hp} {ds : List D} {vs : List V} {L : List Addr} (h : KPL K ks H w' H' ds vs L) : vs.length = ks.length := by
  induction h with
  | nil => rfl
  | e h t ih => simp [ih]
  | f n h na t ih => simp [ih]
def PostL (K : PySem.W.Frag) (ks : List Kd) (w : Wit) (H : Hp) (W : WZ) (σ : L2.St) (r : Ress) (Q : List V → Hp → Prop) : Prop := match r with
  | .ok ds S => ∀ vs H' w' L, Ext w H w' H' → Gd K w' H' S → KPL K ks H w' H' ds vs L → Q vs H'
  | .exn x S => ∀ cls dx H' w', Ext w H w' H' → Gd K w' H' S → RepX K w' H' x cls dx → W.wx cls dx σ H'
  | .stuck => False
def rdL (K : PySem.W.Frag) (ks : List Kd) (W : WZ) (O : List Nat) (f : AF) : TA := fun σ H Q => ∃ (ent : Ent W.xc) (w : Wit) (ρ : DEnv) (S : Sto), R K ent O w H σ ρ S ∧ PostL K ks w H W σ (f ρ S) Q
structure DAk (ks : List Kd) (X : Cx) (W : WZ) (O : List Nat) (es : List Expr) (f : AF) : Prop where
  pa : PA X es (rdL X.K ks W O f)
section
variable {X : Cx} {W : WZ} {O : List Nat} {e : Expr} {es : List Expr} {f : EF} {g : AF} {ks : List Kd}
theorem dak_nil : DAk [] X W O [] aNil := ⟨pa_nil.imp fun σ H Q ⟨ent, w, ρ, S, r, p⟩ => p [] H w [] (.refl _ _) r.gd .nil⟩
theorem dak_e (ha : DE .e X W O e f) (hr : DAk ks X W O es g) (hs : starEach (e :: es) X.env = (false, eval e X.env) :: starEach es X.env := by rfl) : DAk (.e :: ks) X W O (e :: es) (aCons f g) := by
  refine ⟨(pa_cons ha.pe hr.pa hs).imp ?_⟩
  rintro σ H Q ⟨ent, w, ρ, S, r, p⟩
  refine ⟨ent, w, ρ, S, r, ?_⟩
  unfold aCons at p
  cases e1 : f ρ S with
  | stuck => rw [e1] at p; exact p
  | exn x S1 => rw [e1] at p; exact p
  | ok d S1 =>
    rw [e1] at p
    refine fun v H1 w1 x1 g1 z1 => ⟨ent, w1, ρ, S1, r.later x1 g1, ?_⟩
    dsimp only at p
    cases e2 : g ρ S1 with
    | stuck => rw [e2] at p; exact p
    | exn x S2 => rw [e2] at p; exact fun cls dx H' w' y g' h => p cls dx H' w' (x1.trans y) g' h
    | ok ds S2 =>
      rw [e2] at p
      exact fun vs H2 w2 L x2 g2 z2 => p (v :: vs) H2 w2 L (x1.trans x2) g2 (.e (Rep.mono x2.le z1) (z2.later x1))
theorem dak_f (ha : DE .f X W O e f) (hr : DAk ks X W O es g) (hs : starEach (e :: es) X.env = (false, eval e X.env) :: starEach es X.env := by rfl) : DAk (.f :: ks) X W O (e :: es) (aCons f g) := by
  refine ⟨(pa_cons ha.pe hr.pa hs).imp ?_⟩
  rintro σ H Q ⟨ent, w, ρ, S, r, p⟩
  refine ⟨ent, w, ρ, S, r, ?_⟩
  unfold aCons at p
  cases e1 : f ρ S with
  | stuck => rw [e1] at p; exact p
  | exn x S1 => rw [e1] at p; exact p
  | ok d S1 =>
    rw [e1] at p
    rintro v H1 w1 x1 g1 ⟨a, rfl, n, o⟩
    refine ⟨ent, w1, ρ, S1, r.later x1 g1, ?_⟩
    dsimp only at p
    cases e2 : g ρ S1 with
    | stuck => rw [e2] at p; exact p
    | exn x S2 => rw [e2] at p; exact fun cls dx H' w' y g' h => p cls dx H' w' (x1.trans y) g' h
    | ok ds S2 =>
      rw [e2] at p
      refine fun vs H2 w2 L x2 g2 z2 => p _ H2 w2 (a :: L) (x1.trans x2) g2 (.f n (o.ext x2) (fun hm => ?_) (z2.later x1))
      exact o.nt.nb (z2.none a hm)
end
/-- names set one behind the other -/
def putD' : DEnv → List Nat → List D → DEnv
  | ρ, i :: is, d :: ds => putD' (ρ.set i (some d)) is ds
  | ρ, _, _ => ρ
def putV : L2.St → List Nat → List V → L2.St
  | σ, i :: is, v :: vs => putV (σ.set i (some v)) is vs
  | σ, _, _ => σ
def ownK : List Nat → List Nat → List Kd → List Nat
  | O, i :: is, .f :: ks => ownK (i :: O) is ks
  | O, _ :: is, _ :: ks => ownK O is ks
  | O, _, _ => O
/-- no slot is set twice, none is owned -/
def slotsOk : List Nat → List Nat → List Kd → Bool
  | O, i :: is, .f :: ks => !O.contains i && slotsOk (i :: O) is ks
  | O, i :: is, _ :: ks => !O.contains i && slotsOk O is ks
  | _, [], [] => true
  | _, _, _ => false
theorem slotsOk_len : ∀ {is : List Nat} {O : List Nat} {ks : List Kd}, slotsOk O is ks = true → is.length = ks.length
  | [], _, [], _ => rfl
  | [], _, _ :: _, h => by cases h
  | i :: is, O, [], h => by cases h
  | i :: is, O, k :: ks, h => by
    cases k <;> simp only [slotsOk, Bool.and_eq_true] at h <;> simp [slotsOk_len h.2]
theorem R.puts {K : PySem.W.Frag} {Z : Option XC} {ent : Ent Z} {w : Wit} {H0 H : Hp} {S : Sto} (he : ∀ a, Nb (H0 a) → Nb (ent.H a)) : ∀ {is : List Nat} {ks : List Kd} {ds : List D} {vs : List V} {L : List Addr} {O : List Nat} {σ : L2.St} {ρ : DEnv},
    R K ent O w H σ ρ S → KPL K ks H0 w H ds vs L → slotsOk O is ks = true → (∀ j, j ∈ O → (∃ e, ρ[j]? = some (some e)) → ∀ a ∈ L, σ[j]? ≠ some (some (.ref a))) → R K ent (ownK O is ks) w H (putV σ is vs) (putD' ρ is ds) S := by
  intro is
  induction is with
  | nil =>
    intro ks ds vs L O σ ρ r h hs hd
    cases h with
    | nil => exact r
    | e _ _ => cases hs
    | f _ _ _ _ => cases hs
  | cons i is ih =>
    intro ks ds vs L O σ ρ r h hs hd
    cases h with
    | nil => cases hs
    | @e ks _ _ _ ds vs L d v h t =>
      simp only [slotsOk, Bool.and_eq_true, Bool.not_eq_true'] at hs
      have hi : i ∉ O := fun z => by rw [List.contains_iff_mem.mpr z] at hs; exact Bool.noConfusion hs.1
      refine ih (r.put hi h) t hs.2 fun j hj ⟨e, he'⟩ a ha => ?_
      have ne : i ≠ j := fun z => hi (z ▸ hj)
      rw [List.getElem?_set_ne ne] at he' ⊢
      exact hd j hj ⟨e, he'⟩ a ha
    | @f ks _ _ _ ds vs L d a n h na t =>
      simp only [slotsOk, Bool.and_eq_true, Bool.not_eq_true'] at hs
      have hi : i ∉ O := fun z => by rw [List.contains_iff_mem.mpr z] at hs; exact Bool.noConfusion hs.1
      refine ih (r.putOwn h (he a n) fun j hj _ hj2 => hd j hj hj2 a List.mem_cons_self) t hs.2 fun j hj ⟨e, he'⟩ b hb => ?_
      by_cases z : i = j
      · subst z
        intro q
        by_cases hl : i < σ.length
        · rw [List.getElem?_set_self hl] at q
          cases q
          exact na hb
        · rw [List.getElem?_eq_none (by simpa using hl)] at q; cases q
      · rw [List.getElem?_set_ne z] at he' ⊢
        rcases List.mem_cons.mp hj with rfl | hj
        · exact absurd rfl z
        · exact hd j hj ⟨e, he'⟩ b (List.mem_cons_of_mem _ hb)
def sPar (is : List Nat) (f : AF) : SF := fun ρ S => match f ρ S with
  | .ok ds S1 => .nx (putD' ρ is ds) S1
  | .exn x S1 => .exn x ρ S1
  | .stuck => .stuck
theorem par_of {K : PySem.W.Frag} {L : Lp} {W : WZ} {O is : List Nat} {ks : List Kd} {f : AF} (hs : slotsOk O is ks = true) : ∀ En σ H, rdS K L W O (ownK O is ks) (sPar is f) En σ H → rdL K ks W O f σ H fun vs H1 => vs.length = ks.length ∧ (En.nx (putV σ is vs) H1 ∧ ∀ T, H1 T = none → En.nx (putV σ is vs) (upd H1 T (.tup vs))) := by
  rintro En σ H ⟨ent, w, ρ, S, r, p⟩
  refine ⟨ent, w, ρ, S, r, ?_⟩
  unfold sPar at p
  cases e1 : f ρ S with
  | stuck => rw [e1] at p; exact p
  | exn x S1 => rw [e1] at p; exact exn_of r p
  | ok ds S1 =>
    rw [e1] at p
    intro vs H1 w1 Lf x1 g1 z1
    have hlen : vs.length = ks.length := z1.len
    have r1 := r.later x1 g1
    have he : ∀ a, Nb (H a) → Nb (ent.H a) := fun a ha => r.ext.there a ha
    have hd : ∀ j, j ∈ O → (∃ e, ρ[j]? = some (some e)) → ∀ a ∈ Lf, σ[j]? ≠ some (some (.ref a)) := fun j hj ⟨e, he'⟩ a ha q => by
      obtain ⟨b, s1, s2, _⟩ := r.own j e he' hj
      rw [q] at s1; cases s1
      exact s2.nt.nb (z1.none a ha)
    refine ⟨hlen, ?_, fun T nT => ?_⟩
    · exact p w1 H1 _ (R.puts he r1 z1 hs hd)
    · have x2 : Ext w1 H1 w1 (upd H1 T (.tup vs)) := Ext.newO w1 nT
      exact p w1 _ _ ((R.puts he r1 z1 hs hd).later x2 (g1.newO nT))
section
variable {X : Cx} {W : WZ} {L : Lp} {O : List Nat} {a b c : Expr} {f : AF} {ks : List Kd} {x y z : Str} {px py pz pt pos : Pos} {kt k2 : Nat} {pt2 : Pos}
theorem ds_par (i j : Nat) (ha : DAk ks X W O [a, b] f) (hN : X.N.Nodup) (hs : slotsOk O [i, j] ks = true := by decide) (hij : i ≠ j := by decide) (hc : X.calm = true := by rfl) (hi : X.N[i]? = some x := by rfl) (hj : X.N[j]? = some y := by rfl)
    (hx : X.env.scope.names.lookup x = some .local := by rfl) (hy : X.env.scope.names.lookup y = some .local := by rfl) (hw : swappedStores [.Tuple [.Name x px, .Name y py] kt pt] (.Tuple [a, b] k2 pt2) X.env = pure (some [x, y]) := by rfl)
    (hss : swapsWithSole [.Tuple [.Name x px, .Name y py] kt pt] (.Tuple [a, b] k2 pt2) pos.line X.env = pure false := by rfl) :
    DS X W L O (.Assign [.Tuple [.Name x px, .Name y py] kt pt] (.Tuple [a, b] k2 pt2) pos) (ownK O [i, j] ks) (sPar [i, j] f) := by
  refine ⟨(ps_par hc hN hi hj hij hx hy ha.pa hw hss).imp ?_⟩
  rintro En σ H h
  obtain ⟨ent, w, ρ, S, r, p⟩ := par_of hs En σ H h
  refine ⟨ent, w, ρ, S, r, ?_⟩
  cases e1 : f ρ S with
  | stuck => rw [e1] at p; exact p
  | exn x S1 => rw [e1] at p; exact p
  | ok ds S1 =>
    rw [e1] at p
    intro vs H1 w1 Lf x1 g1 z1
    obtain ⟨hl, q, _⟩ := p vs H1 w1 Lf x1 g1 z1
    rw [← slotsOk_len hs] at hl
    match vs, hl, q with
    | [v1, v2], _, q => exact ⟨v1, v2, rfl, q⟩
theorem ds_par3 (i j l : Nat) (ha : DAk ks X W O [a, b, c] f) (hN : X.N.Nodup) (hs : slotsOk O [i, j, l] ks = true := by decide) (hij : i ≠ j := by decide) (hil : i ≠ l := by decide) (hjl : j ≠ l := by decide) (hc : X.calm = true := by rfl) (hi : X.N[i]? = some x := by rfl) (hj : X.N[j]? = some y := by rfl) (hl : X.N[l]? = some z := by rfl)
    (hx : X.env.scope.names.lookup x = some .local := by rfl) (hy : X.env.scope.names.lookup y = some .local := by rfl) (hz : X.env.scope.names.lookup z = some .local := by rfl) (hw : swappedStores [.Tuple [.Name x px, .Name y py, .Name z pz] kt pt] (.Tuple [a, b, c] k2 pt2) X.env = pure (some [x, y, z]) := by rfl)
    (hss : swapsWithSole [.Tuple [.Name x px, .Name y py, .Name z pz] kt pt] (.Tuple [a, b, c] k2 pt2) pos.line X.env = pure false := by rfl) :
    DS X W L O (.Assign [.Tuple [.Name x px, .Name y py, .Name z pz] kt pt] (.Tuple [a, b, c] k2 pt2) pos) (ownK O [i, j, l] ks) (sPar [i, j, l] f) := by
  refine ⟨(ps_par3 hc hN hi hj hl hij hil hjl hx hy hz ha.pa hw hss).imp ?_⟩
  rintro En σ H h
  obtain ⟨ent, w, ρ, S, r, p⟩ := par_of hs En σ H h
  refine ⟨ent, w, ρ, S, r, ?_⟩
  cases e1 : f ρ S with
  | stuck => rw [e1] at p; exact p
  | exn x S1 => rw [e1] at p; exact p
  | ok ds S1 =>
    rw [e1] at p
    intro vs H1 w1 Lf x1 g1 z1
    obtain ⟨hl, q, _⟩ := p vs H1 w1 Lf x1 g1 z1
    rw [← slotsOk_len hs] at hl
    match vs, hl, q with
    | [v1, v2, v3], _, q => exact ⟨v1, v2, v3, rfl, q⟩
/-- the tuple path -/
def gNs : List Nat → TGs
  | [] => gNil
  | i :: is => gCons (gName i) (gNs is)
theorem gNs_of : ∀ {is : List Nat} {vs : List V} {σ : L2.St} {H : Hp} {Q : L2.St → Hp → Prop}, vs.length = is.length → Q (putV σ is vs) H → gNs is vs σ H Q
  | [], [], _, _, _, _, q => ⟨rfl, q⟩
  | [], _ :: _, _, _, _, h, _ => by cases h
  | _ :: _, [], _, _, _, h, _ => by cases h
  | i :: is, v :: vs, σ, H, Q, h, q => ⟨v, vs, rfl, gNs_of (by simpa using h) q⟩
theorem ds_parT {tgs es : List Expr} (is : List Nat) (ha : DAk ks X W O es f) (hg : PGs X tgs (gNs is)) (hs : slotsOk O is ks = true := by decide) (hlen : tgs.length = is.length := by rfl) (hz : is.length ≤ 1000 := by decide) (hc : X.calm = true := by rfl) (hn : (assignEach tgs X.env).length = tgs.length := by rfl) (hst : (assignEach tgs X.env).findIdx? (·.1) = none := by rfl)
    (hss : swapsWithSole [.Tuple tgs kt pt] (.Tuple es k2 pt2) pos.line X.env = pure false := by rfl) (hw : swappedStores [.Tuple tgs kt pt] (.Tuple es k2 pt2) X.env = pure none := by rfl) (h1 : (assignEach [.Tuple tgs kt pt] X.env).map (·.2) = [assign (.Tuple tgs kt pt) X.env] := by rfl) :
    DS X W L O (.Assign [.Tuple tgs kt pt] (.Tuple es k2 pt2) pos) (ownK O is ks) (sPar is f) := by
  refine ⟨(ps_asg (pe_tup ha.pa) (pg_tup hc hg hn hst) hss hw h1).imp ?_⟩
  rintro En σ H h
  obtain ⟨ent, w, ρ, S, r, p⟩ := par_of hs En σ H h
  refine ⟨ent, w, ρ, S, r, ?_⟩
  cases e1 : f ρ S with
  | stuck => rw [e1] at p; exact p
  | exn x S1 => rw [e1] at p; exact p
  | ok ds S1 =>
    rw [e1] at p
    intro vs H1 w1 Lf x1 g1 z1
    obtain ⟨hl, _, q⟩ := p vs H1 w1 Lf x1 g1 z1
    rw [← slotsOk_len hs] at hl
    refine ⟨by rw [hl]; exact Nat.le_trans hz (by decide), fun T nT => ?_⟩
    exact ⟨T, vs, rfl, SqT.of upd_same, by rw [hlen, hl], gNs_of hl (q T nT)⟩
end

/-! ### own lists, own dicts -/
def putKD (kvs : List (D × D)) (t : D → Bool) (k v : D) : List (D × D) := if kvs.any (fun kv => t kv.1) then kvs.map (fun kv => if t kv.1 then (kv.1, v) else kv) else kvs ++ [(k, v)]
/-- a key more -/
def putN (ks : List (Option Int)) (k : Option Int) : List (Option Int) := if k ∈ ks then ks else ks ++ [k]
def setF (d k v : D) : Option D := match d with
  | .dct kvs => match kOf k with
    | some kk => if kvs.length < LIM then some (.dct (putKD kvs (fun x => decide (kOf x = some kk)) k v)) else none
    | none => none
  | .dtt kvs => match tOf k with
    | some kk => if kvs.length < LIM then some (.dtt (putKD kvs (fun x => decide (tOf x = some kk)) k v)) else none
    | none => none
  | .lst ds => match k with
    | .int i => (ixN ds.length i).map fun j => .lst (ds.set j v)
    | _ => none
  | .dno ks => match v with
    | .bl true => match nOf k with
      | some kk => if ks.length < LIM then some (.dno (putN ks kk)) else none
      | none => none
    | _ => none
  | _ => none
theorem kD_kOf {d : D} {k : L2.Key} (h : kOf d = some k) : d = kD k := by
  cases d <;> simp [kOf] at h <;> subst h <;> rfl
theorem ksOf_map : ∀ {ds : List D} {ks : List L2.Key}, ksOf ds = some ks → ds = ks.map kD
  | [], ks, h => by cases h; rfl
  | d :: ds, ks, h => by
    simp only [ksOf] at h
    cases e1 : kOf d with
    | none => simp [e1] at h
    | some k =>
      cases e2 : ksOf ds with
      | none => simp [e1, e2] at h
      | some ks' => simp [e1, e2] at h; subst h; rw [kD_kOf e1, ksOf_map e2]; rfl
section
variable {K : PySem.W.Frag} {w : Wit} {d : D} {v : V} {t : D → Bool}
theorem RepK.any {k : L2.Key} (ht : ∀ kk, t (kD kk) = decide (kk = k)) : ∀ {ds : List (D × D)} {vs : List (L2.Key × V)}, RepK K w ds vs → (ds.any fun kv => t kv.1) = vs.any fun kv => decide (kv.1 = k)
  | _, _, .nil => rfl
  | _, _, .cons h r => by simp only [List.any_cons, ht, RepK.any ht r]
theorem RepK.upd {k : L2.Key} (ht : ∀ kk, t (kD kk) = decide (kk = k)) (rv : Rep K w d v) : ∀ {ds : List (D × D)} {vs : List (L2.Key × V)}, RepK K w ds vs → RepK K w (ds.map fun kv => if t kv.1 then (kv.1, d) else kv) (vs.map fun kv => if kv.1 = k then (kv.1, v) else kv)
  | _, _, .nil => .nil
  | _, _, @RepK.cons _ _ k' d' v' ds vs h r => by
    simp only [List.map_cons, ht, decide_eq_true_eq]
    by_cases e : k' = k
    · rw [if_pos e, if_pos e]; exact .cons rv (RepK.upd ht rv r)
    · rw [if_neg e, if_neg e]; exact .cons h (RepK.upd ht rv r)
theorem RepK.snoc {k : L2.Key} (rv : Rep K w d v) : ∀ {ds : List (D × D)} {vs : List (L2.Key × V)}, RepK K w ds vs → RepK K w (ds ++ [(kD k, d)]) (vs ++ [(k, v)])
  | _, _, .nil => .cons rv .nil
  | _, _, .cons h r => .cons h (RepK.snoc rv r)
theorem RepK.put' {k : L2.Key} {ds : List (D × D)} {vs : List (L2.Key × V)} (ht : ∀ kk, t (kD kk) = decide (kk = k)) (h : RepK K w ds vs) (r : Rep K w d v) : RepK K w (putKD ds t (kD k) d) (putK vs k v) := by
  unfold putKD putK
  rw [RepK.any ht h]
  split
  · exact RepK.upd ht r h
  · exact RepK.snoc r h
theorem RepT.any {k : List L2.Key} (ht : ∀ kk : List L2.Key, t (.tup (kk.map kD)) = decide (kk = k)) : ∀ {ds : List (D × D)} {vs : List (List L2.Key × V)}, RepT K w ds vs → (ds.any fun kv => t kv.1) = vs.any fun kv => decide (kv.1 = k)
  | _, _, .nil => rfl
  | _, _, .cons h r => by simp only [List.any_cons, ht, RepT.any ht r]
theorem RepT.upd {k : List L2.Key} (ht : ∀ kk : List L2.Key, t (.tup (kk.map kD)) = decide (kk = k)) (rv : Rep K w d v) : ∀ {ds : List (D × D)} {vs : List (List L2.Key × V)}, RepT K w ds vs → RepT K w (ds.map fun kv => if t kv.1 then (kv.1, d) else kv) (vs.map fun kv => if kv.1 = k then (kv.1, v) else kv)
  | _, _, .nil => .nil
  | _, _, @RepT.cons _ _ k' d' v' ds vs h r => by
    simp only [List.map_cons, ht, decide_eq_true_eq]
    by_cases e : k' = k
    · rw [if_pos e, if_pos e]; exact .cons rv (RepT.upd ht rv r)
    · rw [if_neg e, if_neg e]; exact .cons h (RepT.upd ht rv r)
theorem RepT.snoc {k : List L2.Key} (rv : Rep K w d v) : ∀ {ds : List (D × D)} {vs : List (List L2.Key × V)}, RepT K w ds vs → RepT K w (ds ++ [(.tup (k.map kD), d)]) (vs ++ [(k, v)])
  | _, _, .nil => .cons rv .nil
  | _, _, .cons h r => .cons h (RepT.snoc rv r)
theorem RepK.put {k : L2.Key} {ds : List (D × D)} {vs : List (L2.Key × V)} (h : RepK K w ds vs) (r : Rep K w d v) : RepK K w (putKD ds (fun x => decide (kOf x = some k)) (kD k) d) (putK vs k v) :=
  h.put' (fun kk => by simp [kOf_kD]) r
theorem RepT.put' {k : List L2.Key} {ds : List (D × D)} {vs : List (List L2.Key × V)} (ht : ∀ kk : List L2.Key, t (.tup (kk.map kD)) = decide (kk = k)) (h : RepT K w ds vs) (r : Rep K w d v) : RepT K w (putKD ds t (.tup (k.map kD)) d) (putK vs k v) := by
  unfold putKD putK
  rw [RepT.any ht h]
  split
  · exact RepT.upd ht r h
  · exact RepT.snoc r h
theorem RepT.put {k : List L2.Key} {ds : List (D × D)} {vs : List (List L2.Key × V)} (h : RepT K w ds vs) (r : Rep K w d v) : RepT K w (putKD ds (fun x => decide (tOf x = some k)) (.tup (k.map kD)) d) (putK vs k v) :=
  h.put' (fun kk => by simp [tOf, ksOf_kD]) r
end
theorem RepK.tup_of {d : D} {k : List L2.Key} (h : tOf d = some k) : d = .tup (k.map kD) := by
  cases d <;> simp [tOf] at h
  rw [ksOf_map h]
section
variable {X : Cx} {W : WZ} {L : Lp} {O : List Nat} {e ek ev : Expr} {fe fk fv : EF} {k kk : Kd} {x : Str} {p pos pos' apos cpos : Pos}
/-- d[k] = v, d a slot's own -/
def sPut (i : Nat) (fk fv : EF) : SF := fun ρ S => sBind (fv ρ S) ρ fun v S1 => match ρ[i]? with
  | some (some d) => sBind (fk ρ S1) ρ fun k S2 => (match setF d (deref S2 k) v with
    | some d' => .nx (ρ.set i (some d')) S2
    | none => .stuck)
  | _ => .stuck
theorem own_dct {K : PySem.W.Frag} {w : Wit} {H : Hp} {d : D} {a : Addr} {vs : List (L2.Key × V)} {ds : List (D × D)} (h : Own K w H d a) (r : RepK K w ds vs) : Own K w (upd H a (.dK vs)) (.dct ds) a := ⟨h.1, h.2.1, vs, upd_same, r⟩
theorem own_dtt {K : PySem.W.Frag} {w : Wit} {H : Hp} {d : D} {a : Addr} {vs : List (List L2.Key × V)} {ds : List (D × D)} (h : Own K w H d a) (r : RepT K w ds vs) : Own K w (upd H a (.dT vs)) (.dtt ds) a := ⟨h.1, h.2.1, vs, upd_same, r⟩
theorem own_lst {K : PySem.W.Frag} {w : Wit} {H : Hp} {d : D} {a : Addr} {vs : List V} {ds : List D} (h : Own K w H d a) (r : Reps K w ds vs) : Own K w (upd H a (.lst vs)) (.lst ds) a := ⟨h.1, h.2.1, vs, upd_same, r⟩
/-- an own dict gets an entry -/
theorem dput_own {K : PySem.W.Frag} {w : Wit} {H : Hp} {d dk dv d' : D} {a : Addr} {y v : V} (hs : ∀ a o, w.F a = some o → H a = some o) (h : Own K w H d a) (hk : Vw K w H dk y) (hv : Rep K w dv v) (e : setF d dk dv = some d') (hn : ∀ ds, d ≠ .lst ds) (hn2 : ∀ ks, d ≠ .dno ks) : ∃ o, DPut H a y v (upd H a o) ∧ Own K w (upd H a o) d' a := by
  have h3 := h.2.2
  cases d with
  | dct kvs =>
    obtain ⟨vs, hH, r⟩ := h3
    simp only [setF] at e
    cases e1 : kOf dk with
    | none => rw [e1] at e; cases e
    | some kk =>
      rw [e1] at e
      dsimp only at e
      split at e
      · rename_i hl
        cases e
        have ey := kOf_vw hk e1
        rw [kD_kOf e1]
        exact ⟨_, .inl ⟨vs, kk, hH, ey, by rw [← r.length]; exact lim_size hl, rfl⟩, own_dct h (r.put hv)⟩
      · cases e
  | dtt kvs =>
    obtain ⟨vs, hH, r⟩ := h3
    simp only [setF] at e
    cases e1 : tOf dk with
    | none => rw [e1] at e; cases e
    | some kk =>
      rw [e1] at e
      dsimp only at e
      split at e
      · rename_i hl
        cases e
        have ed := RepK.tup_of e1
        subst ed
        cases hk with
        | @tup b us es hb rb =>
          have eu : us = kk.map kV := ksOf_reps rb (ksOf_kD kk)
          exact ⟨_, .inr ⟨vs, kk, b, hH, rfl, by rw [hs _ _ hb, eu], by rw [← r.length]; exact lim_size hl, rfl⟩, own_dtt h (r.put hv)⟩
      · cases e
  | lst ds => exact absurd rfl (hn ds)
  | dno ks => exact absurd rfl (hn2 ks)
  | _ => exact h3.elim
/-- the dict that tells True gets a key -/
def rSetN : V → V → V → Hp → (Hp → Prop) → Prop := fun o i v H Q => ∃ a ks k, o = .ref a ∧ i = nV k ∧ v = .bl true ∧ H a = some (DNo a ks) ∧ ks.length ≤ sizeLine ∧ Q (upd H a (DNo a (putN ks k)))
theorem dn_stored (ks : List (Option Int)) (k : Option Int) : stored (ks.map dnE) (dnK k) (.bool true) = (putN ks k).map dnE := by
  unfold stored putN
  have hk : ∀ j : Option Int, decide (dnK j = dnK k) = decide (j = k) := fun j => by simp only [dnK_inj]
  rw [List.any_map]
  have ha : (ks.any ((fun kv : Option L2.Key × Value => decide (kv.1 = dnK k)) ∘ dnE)) = decide (k ∈ ks) := by
    rw [Bool.eq_iff_iff, List.any_eq_true]
    constructor
    · rintro ⟨j, hj, hd⟩
      have e : dnK j = dnK k := of_decide_eq_true hd
      exact decide_eq_true (dnK_inj.mp e ▸ hj)
    · intro h
      exact ⟨k, of_decide_eq_true h, decide_eq_true rfl⟩
  rw [ha]
  by_cases c : k ∈ ks
  · rw [if_pos (decide_eq_true c), if_pos c, List.map_map]
    refine List.map_congr_left fun j hj => ?_
    show (if dnK j = dnK k then (dnK j, Value.bool true) else (dnK j, Value.bool true)) = (dnK j, Value.bool true)
    exact ite_self _
  · rw [if_neg (by simpa using c), if_neg c, List.map_append]
    rfl
theorem set_N {X : Cx} : PSet X rSetN := by
  intro pins s σ H o i v ov iv u Q I ro ri rv h
  obtain ⟨a, ks, k, rfl, rfl, rfl, hp, hl, q⟩ := h
  cases (show ov = Value.ref a from ro)
  obtain rfl : u = Value.bool true := rv
  obtain ⟨hd, dd⟩ := dn_of (I.hok _ _ hp)
  have hz : (ks.map dnE).length ≤ sizeLine := by rw [List.length_map]; exact hl
  refine wpAny_setItem_pairs (hsz := hz) (nV_is ri) dd fun h' dd' hs => ?_
  rw [dn_stored] at dd'
  have he : ∃ q, h'.get? a = some q := let ⟨q, _, _, hq, _⟩ := dd'; ⟨q, hq⟩
  exact ⟨_, d_write I (by rw [hp]; exact True.intro) hs he (dn_ok hd dd'), q⟩
def rSetM : V → V → V → Hp → (Hp → Prop) → Prop := fun o i v H Q => rSetL o i v H Q ∨ rSetN o i v H Q
theorem set_M {X : Cx} : PSet X rSetM := fun pins s σ H o i v ov iv u Q I ro ri rv h => h.elim (set_list pins s σ H o i v ov iv u Q I ro ri rv) (set_N pins s σ H o i v ov iv u Q I ro ri rv)
theorem nput_own {K : PySem.W.Frag} {w : Wit} {H : Hp} {ks : List (Option Int)} {dk dv d' : D} {a : Addr} {y v : V} (h : Own K w H (.dno ks) a) (hk : Vw K w H dk y) (hv : Rep K w dv v) (e : setF (.dno ks) dk dv = some d') : ∃ k, y = nV k ∧ v = .bl true ∧ H a = some (DNo a ks) ∧ ks.length ≤ sizeLine ∧ Own K w (upd H a (DNo a (putN ks k))) d' a := by
  have h3 : H a = some (DNo a ks) := h.2.2
  simp only [setF] at e
  cases hv with
  | bl b =>
    cases b with
    | true =>
      dsimp only at e
      cases e1 : nOf dk with
      | none => rw [e1] at e; cases e
      | some kk =>
        rw [e1] at e
        dsimp only at e
        split at e
        · rename_i hl
          cases e
          exact ⟨kk, nOf_vw hk e1, rfl, h3, Nat.le_of_lt (lim_size hl), h.1, h.2.1, upd_same⟩
        · cases e
    | false => cases e
  | _ => cases e
theorem lput_own {K : PySem.W.Frag} {w : Wit} {H : Hp} {ds : List D} {dk dv d' : D} {a : Addr} {y v : V} (h : Own K w H (.lst ds) a) (hk : Vw K w H dk y) (hv : Rep K w dv v) (e : setF (.lst ds) dk dv = some d') : ∃ xs n j, y = .int n ∧ H a = some (.lst xs) ∧ ixN xs.length n = some j ∧ Own K w (upd H a (.lst (xs.set j v))) d' a := by
  obtain ⟨vs, hH, r⟩ := h.2.2
  simp only [setF] at e
  cases hk with
  | int n =>
    dsimp only at e
    cases e1 : ixN ds.length n with
    | none => rw [e1] at e; cases e
    | some j =>
      rw [e1] at e; cases e
      exact ⟨vs, n, j, rfl, hH, by rw [← r.length]; exact e1, own_lst h (r.set j hv)⟩
  | _ => cases e
theorem put_of {K : PySem.W.Frag} {i : Nat} (hi : i ∈ O) : ∀ En σ H, rdS K L W O O (sPut i fk fv) En σ H →
    sDPut (tVar i) (rd K kk W O fk) (rd K .e W O fv) En σ H ∨ tAsg (rd K .e W O fv) (gSub (tVar i) (rd K kk W O fk) rSetM) En σ H := by
  rintro En σ H ⟨ent, w, ρ, S, r, p⟩
  by_cases hls : ∃ ds, ρ[i]? = some (some (.lst ds))
  · obtain ⟨ds, hd⟩ := hls
    refine .inr ⟨ent, w, ρ, S, r, SPost.bind r p fun v S1 vv H1 w1 x1 g1 z1 q1 => ?_⟩
    have r1 := r.later x1 g1
    rw [hd] at q1
    obtain ⟨a, s1, o1, _⟩ := r1.own i _ hd hi
    refine ⟨.ref a, s1, ent, w1, ρ, S1, r1, SPost.bind r1 q1 fun dk S2 y H2 w2 x2 g2 z2 q2 => ?_⟩
    have r2 := r1.later x2 g2
    obtain ⟨a', s2, o2, _⟩ := r2.own i _ hd hi
    rw [s1] at s2; cases s2
    have vk := (z2.ext (H1 := H2) (.refl _ _)).vw g2
    cases e1 : setF (.lst ds) (deref S2 dk) v with
    | none => rw [e1] at q2; exact q2.elim
    | some d' =>
      rw [e1] at q2
      obtain ⟨xs, n, j, ey, hH, hj, ho⟩ := lput_own o2 vk (Rep.mono x2.le z1) e1
      exact .inl ⟨a, xs, n, j, rfl, ey, hH, hj, q2 w2 _ σ (r2.upd hi hd s1 ho)⟩
  · by_cases hno : ∃ ks, ρ[i]? = some (some (.dno ks))
    · obtain ⟨ks, hd⟩ := hno
      refine .inr ⟨ent, w, ρ, S, r, SPost.bind r p fun v S1 vv H1 w1 x1 g1 z1 q1 => ?_⟩
      have r1 := r.later x1 g1
      rw [hd] at q1
      obtain ⟨a, s1, o1, _⟩ := r1.own i _ hd hi
      refine ⟨.ref a, s1, ent, w1, ρ, S1, r1, SPost.bind r1 q1 fun dk S2 y H2 w2 x2 g2 z2 q2 => ?_⟩
      have r2 := r1.later x2 g2
      obtain ⟨a', s2, o2, _⟩ := r2.own i _ hd hi
      rw [s1] at s2; cases s2
      have vk := (z2.ext (H1 := H2) (.refl _ _)).vw g2
      cases e1 : setF (.dno ks) (deref S2 dk) v with
      | none => rw [e1] at q2; exact q2.elim
      | some d' =>
        rw [e1] at q2
        obtain ⟨k, ey, ev, hH, hl, ho⟩ := nput_own o2 vk (Rep.mono x2.le z1) e1
        exact .inr ⟨a, ks, k, rfl, ey, ev, hH, hl, q2 w2 _ σ (r2.upd hi hd s1 ho)⟩
    refine .inl ⟨ent, w, ρ, S, r, SPost.bind r p fun v S1 vv H1 w1 x1 g1 z1 q1 => ?_⟩
    have r1 := r.later x1 g1
    cases e0 : ρ[i]? with
    | none => rw [e0] at q1; exact q1.elim
    | some o => cases o with
      | none => rw [e0] at q1; exact q1.elim
      | some d =>
        rw [e0] at q1
        have hn : ∀ ds, d ≠ .lst ds := fun ds z => hls ⟨ds, by rw [e0, z]⟩
        obtain ⟨a, s1, o1, _⟩ := r1.own i _ e0 hi
        refine ⟨.ref a, s1, ent, w1, ρ, S1, r1, SPost.bind r1 q1 fun dk S2 y H2 w2 x2 g2 z2 q2 => ?_⟩
        have r2 := r1.later x2 g2
        obtain ⟨a', s2, o2, _⟩ := r2.own i _ e0 hi
        rw [s1] at s2; cases s2
        have vk := (z2.ext (H1 := H2) (.refl _ _)).vw g2
        cases e1 : setF d (deref S2 dk) v with
        | none => rw [e1] at q2; exact q2.elim
        | some d' =>
          rw [e1] at q2
          obtain ⟨o, hp, ho⟩ := dput_own g2.sub o2 vk (Rep.mono x2.le z1) e1 hn (fun ks z => hno ⟨ks, by rw [e0, z]⟩)
          exact ⟨a, _, rfl, hp, q2 w2 _ σ (r2.upd hi e0 s1 ho)⟩
theorem _root_.L2.PS.or {X : Cx} {st : Stmt} {t t' : TS} (h : PS X st t) (h' : PS X st t') : PS X st (fun D σ H => t D σ H ∨ t' D σ H) :=
  ⟨fun pins s σ H D I q => q.elim (h.run pins s σ H D I) (h'.run pins s σ H D I)⟩
theorem ds_put (i : Nat) (hu : X.A.units + 64 < cLine) (hk : DE kk X W O ek fk) (hv : DE .e X W O ev fv) (hi : i ∈ O := by decide) (hN : X.N[i]? = some x := by rfl) (hvi : Vis X.env.scope x := by first | exact Or.inl rfl | exact Or.inr (Or.inl rfl) | exact Or.inr (Or.inr rfl)) (hd : (x == ("__debug__" : Str)) = false := by decide) (hcd : (x == ("__classdict__" : Str)) = false := by decide)
    (hsw : swapsWith ev (some (.Subscript (.Name x p) ek pos')) pos.line X.env = pure false := by rfl)
    (hs : swapsWithSole [.Subscript (.Name x p) ek pos'] ev pos.line X.env = pure false := by rfl) (hw : swappedStores [.Subscript (.Name x p) ek pos'] ev X.env = pure none := by rfl)
    (h1 : (assignEach [.Subscript (.Name x p) ek pos'] X.env).map (·.2) = [assign (.Subscript (.Name x p) ek pos') X.env] := by rfl)
    (ha : ∀ v, assign (.Subscript (.Name x p) ek pos') X.env v = (do
      let ov ← holding [v] (eval (.Name x p) X.env)
      let iv ← holding [v, ov] (eval ek X.env)
      standAt pos'
      holding [v, ov, iv] (setItem ov iv v)
      release [v, ov, iv] []) := by intro _; rfl) :
    DS X W L O (.Assign [.Subscript (.Name x p) ek pos'] ev pos) O (sPut i fk fv) :=
  ⟨((ps_dput (by omega) (pe_var hN hvi hd hcd) hk.pe hv.pe hsw).or (ps_asg hv.pe (pg_sub (pe_var hN hvi hd hcd) hk.pe set_M ha) hs hw h1)).imp (put_of hi)⟩
/-- xs.append(e), xs a slot's own -/
def sApp (i : Nat) (f : EF) : SF := fun ρ S => match ρ[i]? with
  | some (some (.lst ds)) => sBind (f ρ S) ρ fun d S1 => if ds.length < LIM then .nx (ρ.set i (some (.lst (ds ++ [d])))) S1 else .stuck
  | _ => .stuck
theorem app_of {K : PySem.W.Frag} {i : Nat} (hi : i ∈ O) : ∀ En σ H, rdS K L W O O (sApp i fe) En σ H → tDrop (tBM K "list" rAppend (tVar i) (tCons (rd K .e W O fe) tNil)) En σ H := by
  rintro En σ H ⟨ent, w, ρ, S, r, p⟩
  unfold sApp at p
  match e0 : ρ[i]?, p with
  | some (some (.lst ds)), p =>
    obtain ⟨a, s1, o1, _⟩ := r.own i _ e0 hi
    obtain ⟨vs0, hH0, _⟩ := o1.2.2
    refine ⟨.ref a, s1, .inl ⟨rfl, vs0, SqL.of hH0⟩, ent, w, ρ, S, r, SPost.bind r p fun d S1 v H1 w1 x1 g1 z1 q1 => ?_⟩
    have r1 := r.later x1 g1
    obtain ⟨a', s2, o2, _⟩ := r1.own i _ e0 hi
    rw [s1] at s2; cases s2
    obtain ⟨vs, hH, rr⟩ := o2.2.2
    split at q1
    · rename_i hl
      exact ⟨a, vs, v, rfl, rfl, hH, by rw [← rr.length]; exact lim_size hl, q1 w1 _ σ (r1.upd hi e0 s1 (own_lst o2 (rr.append (.cons z1 .nil))))⟩
    · exact q1.elim
theorem ds_app (i : Nat) (he : DE .e X W O e fe) (hi : i ∈ O := by decide) (hN : X.N[i]? = some x := by rfl) (hvi : Vis X.env.scope x := by first | exact Or.inl rfl | exact Or.inr (Or.inl rfl) | exact Or.inr (Or.inr rfl)) (hd : (x == ("__debug__" : Str)) = false := by decide) (hcd : (x == ("__classdict__" : Str)) = false := by decide)
    (hsw : swapsWith (.Call (.Attribute (.Name x p) "append" apos) [e] [] cpos) none pos.line X.env = pure false := by rfl)
    (hb : attributeBase (.Name x p) "append" X.env (eval (.Name x p) X.env) = eval (.Name x p) X.env := by rfl)
    (hf : (((((backTo cpos (starEach [e] X.env)).all fun x => !x.fst) && (backToKw cpos (keywordEach [] X.env)).all fun x => x.fst.isSome) && decide (([e].length + ([] : List Keyword).length + if ([] : List Keyword).isEmpty = true then 0 else 1) < 30)) = true) := by rfl)
    (hl : (apos.endLine == cpos.line) = true := by rfl) (hse : starEach [e] X.env = (false, eval e X.env) :: starEach [] X.env := by rfl) (hpl : ((backTo cpos (starEach [] X.env)).any fun x => x.fst) = false := by rfl) :
    DS X W L O (.Expr (.Call (.Attribute (.Name x p) "append" apos) [e] [] cpos) pos) O (sApp i fe) :=
  ⟨(ps_expr (pe_bm PySem.F.plainAttrs_list PySem.F.slot_list_append PySem.F.type_list_append mt_append (pe_var hN hvi hd hcd) (pa_cons he.pe pa_nil hse) hb hf hl hse hpl) hsw).imp (app_of hi)⟩
end
end DL

/-! lists of the store changed -/
namespace DL
open PySem PySem.Spec PyProof.Rows L2

section
variable {X : Cx} {W : WZ} {L : Lp} {O : List Nat} {e eo ek ev : Expr} {fe fo fk fv : EF} {k ko kk : Kd} {x : Str} {p pos pos' apos cpos : Pos}
def setO (o : SO) (k v : D) : Option SO := match o with
  | .lst ds => (match k with
    | .int i => (ixN ds.length i).map fun j => .lst (ds.set j v)
    | _ => none)
  | _ => none
def sPutO (fo fk fv : EF) : SF := fun ρ S => sBind (fv ρ S) ρ fun v S1 => sBind (fo ρ S1) ρ fun o S2 => match o with
  | .obj n => sBind (fk ρ S2) ρ fun k S3 => (match S3[n]? with
    | some so => (match setO so (deref S3 k) v with
      | some so' => .nx ρ (S3.set n so')
      | none => .stuck)
    | none => .stuck)
  | _ => .stuck
theorem R.sto {K : PySem.W.Frag} {Z : Option XC} {ent : Ent Z} {w : Wit} {H : Hp} {σ : L2.St} {ρ : DEnv} {S : Sto} {O : List Nat} (r : R K ent O w H σ ρ S) {n : Nat} {o o' : SO} {u : HO} (hn : S[n]? = some o) (h : RepO K w (L2.upd H (w.phi n) u) (w.phi n) o') : R K ent O w (L2.upd H (w.phi n) u) σ ρ (S.set n o') := by
  have hm : n < w.m := by rw [r.gd.len]; exact (List.getElem?_eq_some_iff.mp hn).1
  exact r.later (Ext.put w H hm (r.gd.sto n o hn).there h.ntU) (r.gd.put hn h)
theorem putO_of {K : PySem.W.Frag} : ∀ En σ H, rdS K L W O O (sPutO fo fk fv) En σ H → tAsg (rd K .e W O fv) (gSub (rd K .e W O fo) (rd K kk W O fk) rSetL) En σ H := by
  rintro En σ H ⟨ent, w, ρ, S, r, p⟩
  refine ⟨ent, w, ρ, S, r, SPost.bind r p fun v S1 vv H1 w1 x1 g1 z1 q1 => ?_⟩
  have r1 := r.later x1 g1
  refine ⟨ent, w1, ρ, S1, r1, SPost.bind r1 q1 fun o S2 ov H2 w2 x2 g2 z2 q2 => ?_⟩
  have r2 := r1.later x2 g2
  cases o with
  | obj n =>
    dsimp only at q2
    have z2 : Rep K w2 (.obj n) ov := z2
    cases z2 with
    | obj hm =>
      refine ⟨ent, w2, ρ, S2, r2, SPost.bind r2 q2 fun dk S3 y H3 w3 x3 g3 z3 q3 => ?_⟩
      have r3 := r2.later x3 g3
      have vk := (z3.ext (H1 := H3) (.refl _ _)).vw g3
      cases e1 : S3[n]? with
      | none => rw [e1] at q3; exact q3.elim
      | some so =>
        rw [e1] at q3
        dsimp only at q3
        have hp := g3.sto n so e1
        have ephi : w3.phi n = w2.phi n := x3.le.phi n hm
        cases so with
        | lst ds =>
          obtain ⟨vs, hH, rr⟩ := hp
          simp only [setO] at q3
          generalize deref S3 dk = DK at vk q3
          cases vk with
          | int i =>
            dsimp only at q3
            cases e2 : ixN ds.length i with
            | none => rw [e2] at q3; exact q3.elim
            | some j =>
              rw [e2] at q3
              have hv : Rep K w3 v vv := (Rep.mono x2.le z1).mono x3.le
              refine ⟨w2.phi n, vs, i, j, rfl, rfl, by rw [← ephi]; exact hH, by rw [← rr.length]; exact e2, ?_⟩
              rw [← ephi]
              exact q3 w3 _ σ (R.sto r3 e1 ⟨_, upd_same, rr.set j hv⟩)
          | _ => exact q3.elim
        | _ => exact q3.elim
  | _ => exact q2.elim
theorem ds_putO (ho : DE .e X W O eo fo) (hk : DE kk X W O ek fk) (hv : DE .e X W O ev fv)
    (hs : swapsWithSole [.Subscript eo ek pos'] ev pos.line X.env = pure false := by rfl) (hw : swappedStores [.Subscript eo ek pos'] ev X.env = pure none := by rfl)
    (h1 : (assignEach [.Subscript eo ek pos'] X.env).map (·.2) = [assign (.Subscript eo ek pos') X.env] := by rfl)
    (ha : ∀ v, assign (.Subscript eo ek pos') X.env v = (do
      let ov ← holding [v] (eval eo X.env)
      let iv ← holding [v, ov] (eval ek X.env)
      standAt pos'
      holding [v, ov, iv] (setItem ov iv v)
      release [v, ov, iv] []) := by intro _; rfl) :
    DS X W L O (.Assign [.Subscript eo ek pos'] ev pos) O (sPutO fo fk fv) :=
  ⟨(ps_asg hv.pe (pg_sub ho.pe hk.pe set_list ha) hs hw h1).imp putO_of⟩
end
/-- the row that is laid out at first: the list [a, ..] becomes an object of the store -/
def sNewO (i : Nat) (f : AF) : SF := fun ρ S => match f ρ S with
  | .ok ds S1 => .nx (ρ.set i (some (.obj S1.length))) (S1 ++ [.lst ds])
  | .exn x S1 => .exn x ρ S1
  | .stuck => .stuck
section
variable {K : PySem.W.Frag} {w : Wit} {H : Hp} {S : Sto} {a : Addr} {o : HO} {so : SO}
def Wit.add (w : Wit) (a : Addr) : Wit := { w with phi := fun n => if n = w.m then a else w.phi n, m := w.m + 1 }
theorem Le.add (w : Wit) (a : Addr) : Le w (w.add a) := ⟨fun _ _ h => h, fun n hn => by simp [Wit.add, Nat.ne_of_lt hn], Nat.le_succ _, rfl⟩
theorem Gd.add (g : Gd K w H S) (h : H a = none) (hr : RepO K w (upd H a o) a so) : Gd K (w.add a) (upd H a o) (S ++ [so]) where
  len := by simp [Wit.add, g.len]
  sub := fun b u e => by
    have : w.F b = some u := e
    have h2 := g.sub b u this
    rw [upd_ne (fun q => by rw [q, h] at h2; cases h2)]; exact h2
  sto := fun n u e => by
    by_cases hn : n < S.length
    · rw [List.getElem?_append_left hn] at e
      have ep : (w.add a).phi n = w.phi n := (Le.add w a).phi n (by rw [g.len]; exact hn)
      rw [ep]
      refine (g.sto n u e).mono (Le.add w a) fun z hz => ?_
      rw [upd_ne (fun q => by rw [q, h] at hz; cases hz)]; exact hz
    · rw [List.getElem?_append_right (by omega)] at e
      have en : n = S.length := by
        by_cases q : n - S.length = 0
        · omega
        · rw [List.getElem?_eq_none (by simp; omega)] at e; cases e
      subst en
      simp at e
      subst e
      have ep : (w.add a).phi S.length = a := by simp [Wit.add, g.len]
      rw [ep]
      exact hr.mono (Le.add w a) fun z hz => hz
  inj := fun i j hi hj e => by
    have hi' : i < w.m + 1 := hi
    have hj' : j < w.m + 1 := hj
    have np : ∀ n, n < w.m → w.phi n ≠ a := g.nophi h
    simp only [Wit.add] at e
    by_cases q : i = w.m <;> by_cases q' : j = w.m
    · omega
    · rw [if_pos q, if_neg q'] at e; exact absurd e.symm (np j (by omega))
    · rw [if_neg q, if_pos q'] at e; exact absurd e (np i (by omega))
    · rw [if_neg q, if_neg q'] at e; exact g.inj i j (by omega) (by omega) e
  nofz := fun i hi => by
    have hi' : i < w.m + 1 := hi
    show w.F ((w.add a).phi i) = none
    simp only [Wit.add]
    by_cases q : i = w.m
    · rw [if_pos q]; exact g.noneF h
    · rw [if_neg q]; exact g.nofz i (by omega)
  tab := g.tab.to rfl g.tab.f fun b u e _ => by rw [upd_ne (fun q => by rw [q, h] at e; cases e)]; exact e
theorem Ext.add (g : Gd K w H S) (h : H a = none) : Ext w H (w.add a) (upd H a o) where
  le := Le.add w a
  new := fun n h1 h2 => by
    have h2' : n < w.m + 1 := h2
    have : n = w.m := by omega
    subst this
    exact .inl (by simp [Wit.add, h])
  keep := fun b u e => .inr (by rw [upd_ne (fun q => by rw [q, h] at e; cases e)]; exact e)
  there := fun b hb => by
    by_cases q : b = a
    · subst q; exact .inl h
    · rw [upd_ne q] at hb; exact hb
  fz := fun b hb hF => ⟨hF, by rw [upd_ne (fun q => hb.ne (by rw [q]; exact h))]; exact hb⟩
end
section
variable {X : Cx} {W : WZ} {L : Lp} {O : List Nat} {es : List Expr} {fa : AF} {x : Str} {pos pos' lpos : Pos}
theorem newO_of {K : PySem.W.Frag} {i : Nat} (hO : i ∉ O) (hz : es.length ≤ 1000) (hlen : ∀ ρ S ds S1, fa ρ S = .ok ds S1 → ds.length = es.length) : ∀ En σ H, rdS K L W O O (sNewO i fa) En σ H → tAsg (tLst (rdA K (PRep K) W O fa)) (gName i) En σ H := by
  rintro En σ H ⟨ent, w, ρ, S, r, p⟩
  refine ⟨ent, w, ρ, S, r, ?_⟩
  unfold sNewO at p
  cases e1 : fa ρ S with
  | stuck => rw [e1] at p; exact p
  | exn x S1 => rw [e1] at p; exact exn_of r p
  | ok ds S1 =>
    rw [e1] at p
    intro vs H1 w1 x1 g1 z
    have z : Reps K w1 ds vs := z
    refine ⟨by rw [← z.length, hlen _ _ _ _ e1]; exact Nat.le_trans hz (by decide), fun a na => ?_⟩
    have r1 := r.later x1 g1
    have x2 := Ext.add (o := .lst vs) g1 na
    have g2 := g1.add (so := .lst ds) na ⟨vs, upd_same, z⟩
    refine p _ _ _ ((r1.later x2 g2).put hO ?_)
    have : (w1.add a).phi S1.length = a := by simp [Wit.add, g1.len]
    have q : Rep K (w1.add a) (.obj S1.length) (.ref ((w1.add a).phi S1.length)) := .obj (by simp [Wit.add, g1.len])
    rw [this] at q
    exact q
theorem ds_newO (i : Nat) (ha : DA X W O es fa) (hN : X.N.Nodup) (hlen : ∀ ρ S ds S1, fa ρ S = .ok ds S1 → ds.length = es.length) (hz : es.length ≤ 1000 := by decide) (hO : i ∉ O := by decide) (hi : X.N[i]? = some x := by rfl) (hx : Loc X.env.scope x := by first | exact Or.inl rfl | exact Or.inr rfl) (hs : swapsWith (.List es lpos) (some (.Name x pos')) pos.line X.env = pure false := by rfl) (hf : X.fn x = true ∨ X.env.scope.names.lookup x = some .local := by first | exact .inl rfl | exact .inr rfl | assumption) :
    DS X W L O (.Assign [.Name x pos'] (.List es lpos) pos) O (sNewO i fa) := ⟨(ps_set hN hi hx (pe_lst ha.pa) hs hf).imp (newO_of hO hz hlen)⟩
end
end DL

/-! defs known by name; constants of the module; more operators -/
namespace L2
open PySem PySem.Spec PyProof.Rows
theorem tuple_mul1 (l : Addr) (items : Array Value) (n : Nat) (dd : Option Addr) (sl : Array (Option Value)) (u : Tok) :
    Meets (Builtin.«tuple.__mul__» ⟨[.ref l, .int 1 u], []⟩) (fun _ R s => s.heap.get? l = some { cls := .type "tuple", dict := dd, data := .seq items n, slots := sl } ∧ R (.ok (.ret (Value.ref l))) s) :=
  .of_wp fun prog w A R s h => by
    obtain ⟨hp, g, d, tk, os⟩ := s
    obtain ⟨hl, h⟩ := h
    have f1 := AutoSeq1.idx_int
    wp_walk using wpAny_loadPart' hl
    exact ⟨_, rfl, h⟩
theorem tuple_mul0 (l : Addr) (items : Array Value) (n : Nat) (dd : Option Addr) (sl : Array (Option Value)) (u : Tok) (hi : items.isEmpty = false) :
    Meets (Builtin.«tuple.__mul__» ⟨[.ref l, .int 0 u], []⟩) (fun _ R s => s.heap.get? l = some { cls := .type "tuple", dict := dd, data := .seq items n, slots := sl } ∧
      R (.ok (.ret (Value.ref s.heap.objs.size))) { s with heap := s.heap.push { cls := Value.type "tuple", data := Data.seq #[] }, toks := s.toks }) :=
  .of_wp fun prog w A R s h => by
    obtain ⟨hp, g, d, tk, os⟩ := s
    obtain ⟨hl, h⟩ := h
    have f1 := AutoSeq1.idx_int
    have c1 : (items.isEmpty || (0 : Int) == 1) = false := by simp [hi]
    wp_walk using wpAny_loadPart' hl
    exact ⟨_, rfl, h⟩
def rRepT01 (K : PySem.W.Frag) : R2 := fun x y H Q => ∃ l k xs, x = .ref l ∧ y = .int k ∧ SqT K H l xs ∧ xs ≠ [] ∧ ((k = 1 ∧ Q (.ref l) H) ∨ (k = 0 ∧ ∀ p, H p = none → Q (.ref p) (upd H p (.tup []))))
theorem op_repT01 {X : Cx} : OpR X (binaryOp .Mult) (rRepT01 X.K) := by
  intro pins s σ H x y v u Q I rx ry h
  obtain ⟨l, k, xs, rfl, rfl, hT, hne, q⟩ := h
  cases rx
  obtain ⟨t, rfl⟩ := ry
  obtain ⟨its, r, ⟨⟨cls, dd, data, sl⟩, ho, hc, n, hd⟩, hs⟩ := I.tuple hT
  simp only at hc hd
  subst hc hd
  have hle : its.length = xs.length := r.length.symm
  have hn : its ≠ [] := fun e => hne (by
    rw [e] at hle
    exact List.eq_nil_of_length_eq_zero hle.symm)
  have hi : its.toArray.isEmpty = false := by
    cases its with
    | nil => exact absurd rfl hn
    | cons a b => rfl
  rcases q with ⟨rfl, q⟩ | ⟨rfl, q⟩
  · refine wpAny_binaryOp_repeat_ref (T := "tuple") (U := "int") (by decide) ⟨_, ho, rfl⟩ (fun s' => typeIs_int s' 1 t) noFill_tuple_mul F.fills_int_mul F.slot_int_rmul repeat_tuple F.slot_int_index.lookup
      (call_meets F.slot_int_rmul (typeIs_int s 1 t) F.entry_int_rmul (F.args_int_rmul_2 _ _) (int_rmul_tuple 1 t l its.toArray n dd sl)
        ⟨ho, rfl, ⟨_, ho, rfl⟩, call_meets F.slot_tuple_mul ⟨_, ho, rfl⟩ F.entry_tuple_mul (F.args_tuple_mul_2 _ _) (tuple_mul1 l its.toArray n dd sl t) ⟨ho, ?_⟩⟩)
    exact ⟨.ref l, H, I, rfl, q⟩
  · refine wpAny_binaryOp_repeat_ref (T := "tuple") (U := "int") (by decide) ⟨_, ho, rfl⟩ (fun s' => typeIs_int s' 0 t) noFill_tuple_mul F.fills_int_mul F.slot_int_rmul repeat_tuple F.slot_int_index.lookup
      (call_meets F.slot_int_rmul (typeIs_int s 0 t) F.entry_int_rmul (F.args_int_rmul_2 _ _) (int_rmul_tuple 0 t l its.toArray n dd sl)
        ⟨ho, rfl, ⟨_, ho, rfl⟩, call_meets F.slot_tuple_mul ⟨_, ho, rfl⟩ F.entry_tuple_mul (F.args_tuple_mul_2 _ _) (tuple_mul0 l its.toArray n dd sl t hi) ⟨ho, ?_⟩⟩)
    refine ⟨.ref s.heap.objs.size, _, I.laid (t' := s.toks) (o := .tup []) (fun b ob q => Heap.get?_push_of_some _ q) (Nat.le_refl _) ?_, rfl, q _ (I.hok.fresh (Nat.le_refl _))⟩
    exact ⟨Nat.zero_le _, [], .nil, IsTup.new _ _⟩
end L2
namespace DL
open PySem PySem.Spec PyProof.Rows L2

/-- the def x, known by name, keeps ff -/
structure Fok (P : Program) (w : World) (K : PySem.W.Frag) (mg : Str → Option Value) (base : Heap) (x : Str) (k : Nat) (ps : List Str) (ff : FF) : Prop where
  ex : ∃ fd, FnOk P w K mg base (L2.CX P w) k (He.ga K x) fd ps (spD K ps.length ff) ∧ Binds K fd ps [] ∧ PySem.W.keepIn K (.ref (He.ga K x)) = true ∧ mg x = some (.ref (He.ga K x))
section
variable {X : Cx} {W : WZ} {O : List Nat} {k : Nat} {ps : List Str} {ff : FF} {x : Str} {p pos : Pos} {e a b : Expr} {es : List Expr} {fa : AF} {f g : EF} {ka kb : Kd}
theorem de_fn (h : Fok X.prog X.w X.K X.mg X.base x k ps ff) (hr : Room k X.A) (tk : Takes X W.wx) (ha : DA X W O (e :: es) fa)
    (hlen : ∀ ρ S ds S1, fa ρ S = .ok ds S1 → ds.length = ps.length) (hg : Gl X x := by rfl)
    (hdb : (x == ("__debug__" : Str)) = false := by decide) (he : starEach (e :: es) X.env = (false, eval e X.env) :: starEach es X.env := by rfl) (hpl : (backTo pos (starEach es X.env)).any (·.1) = false := by rfl) :
    DE .e X W O (.Call (.Name x p) (e :: es) [] pos) (eCall ff fa) := by
  obtain ⟨fd, F, hb, hk, hm⟩ := h.ex
  exact de_call F hr hm hk hb tk ha hlen hg hdb he hpl
/-- a module's text, number -/
theorem de_gstr {z : Str} (hm : ∃ t, X.mg x = some (.str z t)) (hg : Gl X x := by rfl) (hd : (x == ("__debug__" : Str)) = false := by decide) : DE .e X W O (.Name x pos) (eC (.str z)) := by
  obtain ⟨t, hm⟩ := hm
  exact de_glob (v := .str z) hm ⟨t, rfl⟩ (fun _ => .str z) hg hd
theorem de_gint {z : Int} (hm : ∃ t, X.mg x = some (.int z t)) (hg : Gl X x := by rfl) (hd : (x == ("__debug__" : Str)) = false := by decide) : DE .e X W O (.Name x pos) (eC (.int z)) := by
  obtain ⟨t, hm⟩ := hm
  exact de_glob (v := .int z) hm ⟨t, rfl⟩ (fun _ => .int z) hg hd
/-- one sign in a text -/
def signF (x y : D) : Option D := match x, y with
  | .str a, .str z => (match a.cps.toList with
    | [c] => some (.bl (decide (c ∈ z.cps.toList)))
    | _ => none)
  | _, _ => none
theorem op_sign : OpR X (compareOp .In) (r2 X.K .e signF) := by
  intro pins s σ H x y v u Q I rx ry ⟨w, S, d1, d2, d, g, k1, k2, e, q⟩
  have v1 := k1.vw g
  have v2 := k2.vw g
  generalize deref S d1 = D1 at v1 e
  generalize deref S d2 = D2 at v2 e
  cases v1 with
  | str a =>
    cases v2 with
    | str z =>
      simp only [signF] at e
      cases ha : a.cps.toList with
      | nil => rw [ha] at e; cases e
      | cons c r => cases r with
        | cons _ _ => rw [ha] at e; cases e
        | nil =>
          rw [ha] at e; cases e
          have ea : a = ⟨#[c]⟩ := by
            obtain ⟨ar⟩ := a
            have : ar = #[c] := by apply Array.toList_inj.mp; exact ha
            rw [this]
          subst ea
          exact op_in_sign pins s σ H _ _ v u Q I rx ry ⟨c, z, rfl, rfl, q _ H w (.refl _ _) g (.bl _)⟩
    | _ => cases e
  | _ => cases v2 <;> cases e
/-- [..] * n -/
def eRep (fa fb : EF) : EF := fun ρ S => (fa ρ S).bind fun x S1 => (fb ρ S1).bind fun y S2 => match x, y with
  | .lst ds, .int n => if ds.length * n.toNat < LIM ∧ -(2 ^ 63) ≤ n ∧ n < 2 ^ 63 then .ok (.lst (List.replicate n.toNat ds).flatten) S2 else .stuck
  | _, _ => .stuck
theorem Reps.rep {K : PySem.W.Frag} {w : Wit} {ds : List D} {vs : List V} (h : Reps K w ds vs) : ∀ n : Nat, Reps K w (List.replicate n ds).flatten (List.replicate n vs).flatten
  | 0 => .nil
  | n + 1 => by simp only [List.replicate_succ, List.flatten_cons]; exact h.append (Reps.rep h n)
theorem rep_of {K : PySem.W.Frag} : ∀ σ H Q, rd K .f W O (eRep f g) σ H Q → tOp rRep (rd K .f W O f) (rd K kb W O g) σ H Q := by
  rintro σ H Q ⟨ent, w, ρ, S, r, p⟩
  refine ⟨ent, w, ρ, S, r, p.bind fun d S1 v H1 w1 x1 g1 z1 p1 => ?_⟩
  refine ⟨ent, w1, ρ, S1, r.later x1 g1, p1.bind fun d2 S2 v2 H2 w2 x2 g2 z2 p2 => ?_⟩
  obtain ⟨a, rfl, n, o⟩ := z1
  have o2 := o.ext x2
  cases d with
  | lst ds =>
    cases d2 with
    | int k =>
      dsimp only at p2
      split at p2
      · rename_i hc
        obtain ⟨_, _, vs, hH, rr⟩ := o2
        have e2 : v2 = .int k := by
          rcases (z2.b : KP K .b H1 w2 H2 (.int k) v2) with h | ⟨_, _, h⟩
          · cases h; rfl
          · exact h.2.2.elim
        subst e2
        refine ⟨a, k, vs, rfl, rfl, hH, hc.2.1, hc.2.2, by rw [← rr.length]; exact Nat.le_of_lt (lim_size hc.1), fun p np => ?_⟩
        exact p2 _ _ w2 (Ext.newO w2 np) (g2.newO np) ⟨p, rfl, np, g2.noneF np, g2.nophi np, _, upd_same, rr.rep _⟩
      · exact p2.elim
    | _ => exact p2.elim
  | _ => exact p2.elim
theorem de_rep (ha : DE .f X W O a f) (hb : DE kb X W O b g) : DE .f X W O (.BinOp a .Mult b pos) (eRep f g) := ⟨(pe_op op_rep ha.pe hb.pe).imp rep_of⟩
/-- (..) * n -/
def repTF (x y : D) : Option D := match x, y with
  | .tup ds, .int n => if 0 ≤ n ∧ n ≤ 1000 ∧ ds.length ≤ 1000 ∧ ds ≠ [] then some (.tup (List.replicate n.toNat ds).flatten) else none
  | _, _ => none
theorem op_repTd : OpR X (binaryOp .Mult) (r2 X.K .e repTF) := by
  intro pins s σ H x y v u Q I rx ry ⟨w, S, d1, d2, d, g, k1, k2, e, q⟩
  have v1 := k1.vw g
  have v2 := k2.vw g
  generalize deref S d1 = D1 at v1 e
  generalize deref S d2 = D2 at v2 e
  cases v1 with
  | @tup a vs ds h rr =>
    cases v2 with
    | int k =>
      simp only [repTF] at e
      split at e
      · rename_i hc
        cases e
        have hl := rr.length
        have hne : vs ≠ [] := fun z => hc.2.2.2 (List.eq_nil_of_length_eq_zero (by rw [hl, z]; rfl))
        by_cases k1 : k = 1
        · subst k1
          refine op_repT01 pins s σ H _ _ v u Q I rx ry ⟨a, 1, vs, rfl, rfl, SqT.of (g.sub _ _ h), hne, .inl ⟨rfl, ?_⟩⟩
          have : (List.replicate (1 : Int).toNat ds).flatten = ds := by simp
          rw [this] at q
          exact q _ _ w (.refl _ _) g (.tup h rr)
        · by_cases k0 : k = 0
          · subst k0
            refine op_repT01 pins s σ H _ _ v u Q I rx ry ⟨a, 0, vs, rfl, rfl, SqT.of (g.sub _ _ h), hne, .inr ⟨rfl, fun p np => ?_⟩⟩
            exact q _ _ (w.new p (.tup [])) (Ext.newF g np) (g.new np) (.tup upd_same .nil)
          · refine op_repT pins s σ H _ _ v u Q I rx ry ⟨a, k, vs, rfl, rfl, SqT.of (g.sub _ _ h), hne, by omega, hc.2.1, by rw [← hl]; exact hc.2.2.1, fun p np => ?_⟩
            exact q _ _ (w.new p (.tup (List.replicate k.toNat vs).flatten)) (Ext.newF g np) (g.new np) (.tup upd_same ((rr.rep _).mono (Le.new (g.noneF np))))
      · cases e
    | _ => cases e
  | _ => cases v2 <;> cases e
/-- {} -/
def eNewK : EF := fun _ S => .ok (.dct []) S
def eNewT : EF := fun _ S => .ok (.dtt []) S
theorem de_newK : DE .f X W O (.Dict [] [] pos) eNewK := ⟨pe_dnewK.imp fun σ H Q ⟨ent, w, ρ, S, r, p⟩ q nq => p _ _ w (Ext.newO w nq) (r.gd.newO nq) ⟨q, rfl, nq, r.gd.noneF nq, r.gd.nophi nq, _, upd_same, .nil⟩⟩
theorem de_newT : DE .f X W O (.Dict [] [] pos) eNewT := ⟨pe_dnewT.imp fun σ H Q ⟨ent, w, ρ, S, r, p⟩ q nq => p _ _ w (Ext.newO w nq) (r.gd.newO nq) ⟨q, rfl, nq, r.gd.noneF nq, r.gd.nophi nq, _, upd_same, .nil⟩⟩
end
section
variable {X : Cx} {W : WZ} {O : List Nat} {elt tg iter tg1 iter1 : Expr} {ifs ifs1 : List Expr} {scope : Scope} {own : List (Str × Nat)} {vs1 : List Nat} {pos : Pos} {fi fi1 : IF} {g g1 : GF} {t t1 : TG} {fc fc1 fe : EF}
theorem de_lc2 (hN : X.N.Nodup) (ok : BlkOk X.N X.env.scope scope own) (hv : ∀ i, i ∈ vs1 → i ∈ own.map (·.2)) (hi : DI X W O tg iter fi)
    (hgo : GOk X.K O g t) (hg : ∀ (s : Shared) (H : Hp) (C : Addr) (cl : List (Str × Addr)) (fp : List Addr), PG (X.blk s H scope (compEnvC scope cl C X.env) fp) tg t) (ho : TOwn t (own.map (·.2)))
    (ht : ∀ (s : Shared) (H : Hp) (C : Addr) (cl : List (Str × Addr)) (fp : List Addr), DCs (X.blk s H scope (compEnvC scope cl C X.env) fp) W O ifs fc)
    (hi1 : ∀ (s : Shared) (H : Hp) (C : Addr) (cl : List (Str × Addr)) (fp : List Addr), DI (X.blk s H scope (compEnvC scope cl C X.env) fp) W.no O tg1 iter1 fi1)
    (hgo1 : GOk X.K O g1 t1) (hg1 : ∀ (s : Shared) (H : Hp) (C : Addr) (cl : List (Str × Addr)) (fp : List Addr), PG (X.blk s H scope (compEnvC scope cl C X.env) fp) tg1 t1) (ho1 : TOwn t1 vs1)
    (ht1 : ∀ (s : Shared) (H : Hp) (C : Addr) (cl : List (Str × Addr)) (fp : List Addr), DCs (X.blk s H scope (compEnvC scope cl C X.env) fp) W O ifs1 fc1)
    (he : ∀ (s : Shared) (H : Hp) (C : Addr) (cl : List (Str × Addr)) (fp : List Addr), DE .e (X.blk s H scope (compEnvC scope cl C X.env) fp) W.no O elt fe)
    (hO : ∀ i, i ∈ own.map (·.2) → i ∉ O := by decide) (hO1 : ∀ i, i ∈ vs1 → i ∉ O := by decide) (hc : X.calm = true := by rfl) (hs : ∀ x, foldedSetIterable iter X.env x = pure x := by intro _; rfl) (hs1 : ∀ env x, foldedSetIterable iter1 env x = pure x := by intro _ _; rfl) :
    DE .f X W O (.ListComp elt [⟨tg, iter, ifs, 0⟩, ⟨tg1, iter1, ifs1, 0⟩] scope pos) (eLc2 (own.map (·.2)) vs1 fi g fc fi1 g1 fc1 fe) :=
  ⟨(pe_lc2 (pos := pos) (tt := rdT X.K W.no O fc) (tt1 := rdT X.K W.no O fc1) (te := rd X.K .e W.no O fe) (wi1 := rdI X.K W.no O fi1) hc hN hi.pi ok hv hg (fun s H C cl fp => (ht s H C cl fp).pts) (fun s H C cl fp => (hi1 s H C cl fp).pi) hg1 (fun s H C cl fp => (ht1 s H C cl fp).pts) (fun s H C cl fp => (he s H C cl fp).pe) hs hs1).imp (lc2_of hgo ho hgo1 ho1 hO hO1)⟩
end
/-! ### truth -/
section
variable {X : Cx} {W : WZ} {O : List Nat} {a : Expr} {fa : EF} {k : Kd}
end
theorem hu_64 {k : Nat} {A : Around} (r : Room k A) : A.units + 64 < cLine := r.units
theorem hu_65 {k : Nat} {A : Around} (r : Room k A) : A.units + 65 < cLine := by have := r.un; omega
def anyB (t : String) : List String → Option Bool
  | [] => some false
  | c :: r => match kitB t c with
    | some true => some true
    | some false => anyB t r
    | none => none
theorem anyB_kit {K : PySem.W.Frag} {t : String} : ∀ {ns : List String} {b : Bool}, anyB t ns = some b → PySem.W.kitAny K (.type t) (ns.map .type) = some b
  | [], _, h => by cases h; rfl
  | c :: r, b, h => by
    unfold anyB at h
    rw [List.map_cons]
    unfold PySem.W.kitAny
    cases e : kitB t c with
    | none => rw [e] at h; cases h
    | some x =>
      rw [e] at h
      rw [kit_ty e]
      cases x with
      | true => exact h
      | false => exact anyB_kit h
theorem isK_ty {K : PySem.W.Frag} {ns : List String} {tb : String → Bool} {to : Str → Option Bool} (h : ∀ t ∈ baseTys, anyB t ns = some (tb t)) (h2 : ∀ c b, to c = some b → False) : IsK K (ns.map .type) tb to :=
  ⟨fun t ht => anyB_kit (h t ht), fun c b e => (h2 c b e).elim⟩
end DL

set_option maxHeartbeats 1000000
/-! several except clauses, each with or without a name -/
namespace DL
open PySem PySem.Spec PyProof.Rows L2

section
variable {X : Cx} {body : List Stmt} {h₀ : ExceptHandler} {hds : List ExceptHandler} {l : List Hd} {pos : Pos} {tb : WX → TS} {Wout : WX}
end
end DL

set_option maxHeartbeats 1000000
/-! raise, try on plain data -/
namespace DL
open PySem PySem.Spec PyProof.Rows L2

/-! ### an except suite is entered, left -/
section
variable {K : PySem.W.Frag} {ent : Ent none} {O : List Nat} {w : Wit} {H : Hp} {σ : L2.St} {ρ : DEnv} {S : Sto}
theorem R.enter (r : R K ent [] w H σ ρ S) {i : Nat} {a : Addr} {cls : Value} {dx : Option Addr} {x : D} (hx : RepX K w H x cls dx) :
    R K (⟨ent.w, ent.H, ent.k⟩ : Ent (some ⟨i, a, cls, dx, x, none, []⟩)) [i] w H (σ.set i (some (.ref a))) (ρ.set i none) S where
  gd := r.gd
  ext := r.ext
  kn := r.kn
  val := fun j d e n => by
    have q : i ≠ j := fun z => n (by simp [z])
    rw [List.getElem?_set_ne q] at e
    obtain ⟨v, h1, h2⟩ := r.val j d e (by simp)
    exact ⟨v, by rw [List.getElem?_set_ne q]; exact h1, h2⟩
  own := fun j d e n => by
    have q : i = j := (by simpa using n : j = i).symm
    subst q
    have hl : i < ρ.length := by have := (List.getElem?_eq_some_iff.mp e).1; simpa using this
    rw [List.getElem?_set_self hl] at e; cases e
  dis := fun j k b hj hk _ _ _ _ => by
    have q1 : j = i := by simpa using hj
    have q2 : k = i := by simpa using hk
    rw [q1, q2]
  len := by simpa using r.len
  exc := fun z hz hi hn => by
    cases hz
    have hl : i < ρ.length := by have := (List.getElem?_eq_some_iff.mp hn).1; simpa using this
    exact ⟨List.getElem?_set_self (by rw [← r.len]; exact hl), hx⟩
  thk := fun z hz => by cases hz; exact ⟨fun p hp => (by cases hp), fun h => absurd rfl h⟩
theorem R.leave {Z : Option XC} {e' : Ent Z} (r : R K e' O w H σ ρ S) (h1 : e'.w = ent.w) (h2 : e'.H = ent.H) (h3 : e'.k = ent.k) : R K ent O w H σ ρ S :=
  ⟨r.gd, by rw [← h1, ← h2]; exact r.ext, by rw [← h3]; exact r.kn, r.val, by rw [← h2]; exact r.own, r.dis, r.len, fun z hz => (by cases hz), fun z hz => by cases hz⟩
end
theorem _root_.L2.PSs.ex {X : Cx} {st : List Stmt} {α : Type} {t : α → TS} (h : ∀ x, PSs X st (t x)) : PSs X st (fun D σ H => ∃ x, t x D σ H) := ⟨fun pins s σ H D I ⟨x, q⟩ => (h x).run pins s σ H D I q⟩
/-! ### the caught exception's fields -/
theorem RepF.look {K : PySem.W.Frag} {w : Wit} {f : Str} : ∀ {fs : List (Str × D)} {vs : List (Str × V)} {d : D}, RepF K w fs vs → fs.lookup f = some d → ∃ v, vs.lookup f = some v ∧ Rep K w d v
  | _, _, d, .nil, h => by cases h
  | _, _, d, @RepF.cons _ _ k d' v ds vs h t, e => by
    simp only [List.lookup] at e ⊢
    cases q : f == k with
    | true => rw [q] at e; cases e; exact ⟨v, rfl, h⟩
    | false => rw [q] at e; exact RepF.look t e
theorem _root_.L2.PE.ex {X : Cx} {e : Expr} {α : Type} {p : α → Prop} {t : α → TE} (h : ∀ x, p x → PE X e (t x)) : PE X e (fun σ H Q => ∃ x, p x ∧ t x σ H Q) := ⟨fun pins s σ H Q I ⟨x, px, q⟩ => (h x px).run pins s σ H Q I q⟩
end DL

set_option maxHeartbeats 1000000
/-! raise of own exceptions with fields; dicts of the module; the hook with further facts -/
namespace DL
open PySem PySem.Spec PyProof.Rows L2

/-! ### an own exception class whose __init__ stores its arguments -/
def oexB (K : PySem.W.Frag) (C : Addr) : Bool := (match K.lookup C with
    | some ⟨.type t, _, .cls cd, sl⟩ => decide (t = "type") && (cd.hasDict && (!cd.hasDel && ((match cd.mro with
        | .ref c :: bm => decide (c = C) && PySem.HandSPX.refsVE bm
        | _ => false) && (match sl.toList with
        | [_, _, _, _, k4, _] => decide (k4 = some (.builtin "ValueError.__new__"))
        | _ => false))))
    | _ => false) && (decide (PySem.W.findIn K (.ref C) "__setattr__" = some (some (.builtin "object.__setattr__"))) && (decide (PySem.W.subIn K (.ref C) (.type "BaseException") = some true) && (decide (PySem.W.typeIn K (.ref C) = some (.type "type")) && PySem.W.keepIn K (.ref C))))
theorem oexB_ok {K : PySem.W.Frag} {C : Addr} (h : oexB K C = true) : OexC K C := by
  unfold oexB at h
  obtain ⟨h1, h⟩ := Bool.and_eq_true_iff.mp h
  obtain ⟨h2, h⟩ := Bool.and_eq_true_iff.mp h
  obtain ⟨h3, h⟩ := Bool.and_eq_true_iff.mp h
  obtain ⟨h4, h5⟩ := Bool.and_eq_true_iff.mp h
  refine ⟨?_, of_decide_eq_true h2, of_decide_eq_true h3, of_decide_eq_true h4, h5⟩
  cases e : K.lookup C with
  | none => rw [e] at h1; cases h1
  | some o =>
    rw [e] at h1
    obtain ⟨oc, od, dt, sl⟩ := o
    cases oc with
    | type t =>
      cases dt with
      | cls cd =>
        dsimp only at h1
        obtain ⟨g1, h1⟩ := Bool.and_eq_true_iff.mp h1
        obtain ⟨g2, h1⟩ := Bool.and_eq_true_iff.mp h1
        obtain ⟨g3, h1⟩ := Bool.and_eq_true_iff.mp h1
        obtain ⟨g4, g5⟩ := Bool.and_eq_true_iff.mp h1
        have e1 : t = "type" := of_decide_eq_true g1
        subst e1
        obtain ⟨nm, bs, mro, ns, qn, hd, sn, sb, ab, col, del⟩ := cd
        dsimp only at g2 g3 g4
        subst g2
        have e3 : del = false := by cases del <;> simp_all
        subst e3
        match mro, g4 with
        | .ref c :: bm, g4 =>
          obtain ⟨k1, k2⟩ := Bool.and_eq_true_iff.mp g4
          have ec : c = C := of_decide_eq_true k1
          subst ec
          obtain ⟨sl⟩ := sl
          match sl, g5 with
          | [a0, a1, a2, a3, a4, a5], g5 =>
            have e4 : a4 = some (.builtin "ValueError.__new__") := of_decide_eq_true g5
            subst e4
            exact ⟨nm, qn, ns, bs, bm, sn, sb, ab, col, od, a0, a1, a2, a3, a5, rfl, k2⟩
      | _ => cases h1
    | _ => cases dt <;> cases h1
/-- where an exception stands in the making: its dict at d with fs -/
def mkX (H : Hp) (a d C : Addr) (fs : List (Str × V)) : Hp := fun b => if b = a then some (exo a C (some d)) else if b = d then some (exd d fs) else H b
/-- C.__init__(self, x1, .., xn) stores the fields fs -/
def spI (K : PySem.W.Frag) (fs : List Str) : Sp := fun vs H Q _ => ∃ a xs C, vs = .ref a :: xs ∧ xs.length = fs.length ∧ OexC K C ∧ (∀ f ∈ fs, PySem.W.findIn K (.ref C) f = some none) ∧ H a = some (exo a C none) ∧ ∀ d, H d = none → d ≠ a → Q .non (mkX H a d C (fs.zip xs).reverse)
theorem mkX_one {H : Hp} {a d C : Addr} {f : Str} {y : V} : upd (upd H d (exd d [(f, y)])) a (exo a C (some d)) = mkX H a d C [(f, y)] := by
  funext b
  simp only [upd, mkX]
theorem mkX_more {H : Hp} {a d C : Addr} {fs fs' : List (Str × V)} (h : d ≠ a) : upd (mkX H a d C fs) d (exd d fs') = mkX H a d C fs' := by
  funext b
  simp only [upd, mkX]
  by_cases q : b = d
  · subst q; simp [h]
  · simp [q]
section
variable {X : Cx} {K : PySem.W.Frag}
theorem mkX_a {H : Hp} {a d C : Addr} {fs : List (Str × V)} : mkX H a d C fs a = some (exo a C (some d)) := by simp [mkX]
theorem mkX_d {H : Hp} {a d C : Addr} {fs : List (Str × V)} (h : d ≠ a) : mkX H a d C fs d = some (exd d fs) := by simp [mkX, h]
/-- the walk of an __init__ with one, two, three fields -/
theorem init1 {f : Str} {N : List Str} {vs : List V} {H : Hp} {Q : VK} {E : XK} {Dn : L2.St → Hp → Prop} (hN : 2 ≤ N.length) (h : spI K [f] vs H Q E) (hD : ∀ σ H', Q .non H' → Dn σ H') : tOst K f (tVar 0) (tVar 1) { nx := Dn, rt := Q } (L2.start N vs) H := by
  obtain ⟨a, xs, C, rfl, hl, T, hno, ha, q⟩ := h
  match xs, hl, q with
  | [y], _, q =>
    exact ⟨y, by simp [L2.start], .ref a, by simp [L2.start], a, C, rfl, T, hno f (by simp), .inl ⟨ha, fun d nd ne => by rw [mkX_one]; exact hD _ _ (q d nd ne)⟩⟩
theorem init2 {f g : Str} {N : List Str} {vs : List V} {H : Hp} {Q : VK} {E : XK} (h : spI K [f, g] vs H Q E) : tSeq (tOst K f (tVar 0) (tVar 1)) (tOst K g (tVar 0) (tVar 2)) { nx := fun _ H' => Q .non H', rt := Q } (L2.start N vs) H := by
  obtain ⟨a, xs, C, rfl, hl, T, hno, ha, q⟩ := h
  match xs, hl, q with
  | [y, z], _, q =>
    refine ⟨y, by simp [L2.start], .ref a, by simp [L2.start], a, C, rfl, T, hno f (by simp), .inl ⟨ha, fun d nd ne => ?_⟩⟩
    rw [mkX_one]
    refine ⟨z, by simp [L2.start], .ref a, by simp [L2.start], a, C, rfl, T, hno g (by simp), .inr ⟨d, [(f, y)], mkX_a, mkX_d ne, by simp, ?_⟩⟩
    rw [mkX_more ne]
    exact q d nd ne
theorem init3 {f g k : Str} {N : List Str} {vs : List V} {H : Hp} {Q : VK} {E : XK} (h : spI K [f, g, k] vs H Q E) : tSeq (tOst K f (tVar 0) (tVar 1)) (tSeq (tOst K g (tVar 0) (tVar 2)) (tOst K k (tVar 0) (tVar 3))) { nx := fun _ H' => Q .non H', rt := Q } (L2.start N vs) H := by
  obtain ⟨a, xs, C, rfl, hl, T, hno, ha, q⟩ := h
  match xs, hl, q with
  | [y, z, u], _, q =>
    refine ⟨y, by simp [L2.start], .ref a, by simp [L2.start], a, C, rfl, T, hno f (by simp), .inl ⟨ha, fun d nd ne => ?_⟩⟩
    rw [mkX_one]
    refine ⟨z, by simp [L2.start], .ref a, by simp [L2.start], a, C, rfl, T, hno g (by simp), .inr ⟨d, [(f, y)], mkX_a, mkX_d ne, by simp, ?_⟩⟩
    rw [mkX_more ne]
    refine ⟨u, by simp [L2.start], .ref a, by simp [L2.start], a, C, rfl, T, hno k (by simp), .inr ⟨d, [(g, z), (f, y)], mkX_a, mkX_d ne, by simp, ?_⟩⟩
    rw [mkX_more ne]
    exact q d nd ne
end
/-- the class x can be raised with the fields fs -/
structure Xok (P : Program) (w : World) (K : PySem.W.Frag) (mg : Str → Option Value) (base : Heap) (x : Str) (fs : List Str) : Prop where
  ex : ∃ fI fd, OexC K (He.ga K x) ∧ PySem.W.findIn K (.ref (He.ga K x)) "__init__" = some (some (.ref fI)) ∧ PySem.W.typeIn K (.ref fI) = some (.type "function") ∧ FnOk P w K mg base CX0 1 fI fd ("self" :: fs) (spI K fs) ∧ Binds K fd ("self" :: fs) []
  no : ∀ f ∈ fs, PySem.W.findIn K (.ref (He.ga K x)) f = some none
  mg_ : mg x = some (.ref (He.ga K x))
def sRaise (x : Str) (fs : List Str) (fa : AF) : SF := fun ρ S => match fa ρ S with
  | .ok ds S1 => .exn (.ins x (fs.zip ds).reverse) ρ S1
  | .exn y S1 => .exn y ρ S1
  | .stuck => .stuck
theorem repF_rev {K : PySem.W.Frag} {w : Wit} {fs : List Str} {ds : List D} {vs : List V} (h : Reps K w ds vs) : RepF K w (fs.zip ds).reverse (fs.zip vs).reverse := by
  have app : ∀ {a : List (Str × D)} {b : List (Str × V)} {a' : List (Str × D)} {b' : List (Str × V)}, RepF K w a b → RepF K w a' b' → RepF K w (a ++ a') (b ++ b') := by
    intro a b a' b' h h'
    induction a generalizing b with
    | nil => cases h; exact h'
    | cons p a ih => cases h with | cons h t => exact .cons h (ih t)
  induction ds generalizing vs fs with
  | nil => cases h; cases fs <;> exact .nil
  | cons d ds ih =>
    cases h with
    | cons h t =>
      cases fs with
      | nil => exact .nil
      | cons f fs =>
        simp only [List.zip_cons_cons, List.reverse_cons]
        exact app (ih t) (.cons h .nil)
section
variable {X : Cx} {W : WZ} {L : Lp} {O O' : List Nat} {e : Expr} {es : List Expr} {fa : AF} {x : Str} {fs : List Str} {p pos pos' : Pos}
theorem ds_raise (h : Xok X.prog X.w X.K X.mg X.base x fs) (hr : Room 2 X.A) (tk : Takes X W.wx) (ha : DA X W O (e :: es) fa) (hlen : ∀ ρ S ds S1, fa ρ S = .ok ds S1 → ds.length = fs.length) (hfl : fs.length ≤ 900 := by decide) (hf0 : fs ≠ [] := by simp) (hc : X.calm = true := by rfl) (hg : Gl X x := by rfl)
    (hdb : (x == ("__debug__" : Str)) = false := by decide) (he : starEach (e :: es) X.env = (false, eval e X.env) :: starEach es X.env := by rfl) (hpl : (backTo pos (starEach es X.env)).any (·.1) = false := by rfl) :
    DS X W L O (.Raise (some (.Call (.Name x p) (e :: es) [] pos)) none pos') O' (sRaise x fs fa) := by
  obtain ⟨fI, fd, T, iC, tI, F1, hb⟩ := h.ex
  refine ⟨(ps_raise hc tk (pmk_oex (dvs := []) T iC tI F1 hr hb .nil pass0 hg h.mg_ ha.pa hdb he hpl)).imp ?_⟩
  rintro En σ H ⟨ent, w, ρ, S, r, p⟩
  refine ⟨ent, w, ρ, S, r, ?_⟩
  unfold sRaise at p
  cases e1 : fa ρ S with
  | stuck => rw [e1] at p; exact p
  | exn y S1 => rw [e1] at p; exact exn_of r p
  | ok ds S1 =>
    rw [e1] at p
    intro vs H1 w1 x1 g1 z
    have z : Reps X.K w1 ds vs := z
    have hl : vs.length = fs.length := by rw [← z.length]; exact hlen _ _ _ _ e1
    refine ⟨by omega, fun a na => ⟨a, vs, He.ga X.K x, by rw [List.append_nil], hl, T, h.no, upd_same, fun d nd ne => ⟨rfl, d, _, mkX_a, mkX_d ne, ?_, ?_⟩⟩⟩
    · rw [upd_ne ne] at nd; exact nd
    · have nd1 : H1 d = none := by rw [upd_ne ne] at nd; exact nd
      have eH : upd (del (mkX (upd H1 a (exo a (He.ga X.K x) none)) a d (He.ga X.K x) (fs.zip vs).reverse) a) d (.xd (fs.zip vs).reverse) = upd H1 d (.xd (fs.zip vs).reverse) := by
        funext b
        simp only [upd, del, mkX]
        by_cases q : b = d
        · simp [q]
        · by_cases q2 : b = a
          · subst q2; simp [q, na]
          · simp [q, q2]
      rw [eH]
      have x2 : Ext w1 H1 w1 (upd H1 d (.xd (fs.zip vs).reverse)) := Ext.newO w1 nd1
      obtain ⟨w3, l3, r3⟩ := ((r.later x1 g1).later x2 (g1.newO nd1)).weak [] (by simp)
      have hld : ds.length = fs.length := hlen _ _ _ _ e1
      have hne : (fs.zip ds).reverse ≠ [] := fun hr0 => by
        rw [List.reverse_eq_nil_iff] at hr0
        have := congrArg List.length hr0
        rw [List.length_zip, hld, Nat.min_self] at this
        exact hf0 (List.length_eq_zero_iff.mp this)
      exact p w3 _ σ _ _ r3 ⟨x, _, rfl, rfl, .inr ⟨d, _, rfl, upd_same, (repF_rev z).mono l3, hne⟩⟩
end
end DL

set_option maxHeartbeats 1000000
/-! dicts of the module with text keys -/
namespace DL
open PySem PySem.Spec PyProof.Rows L2

def dvD : He.Dv → Option D
  | .non => some .non
  | .bl b => some (.bl b)
  | .int i => some (.int i)
  | .str x => some (.str x)
  | _ => none
theorem dvD_rep {K : PySem.W.Frag} {w : Wit} {dv : He.Dv} {d : D} (h : dvD dv = some d) : Rep K w d (dv.v K) := by
  cases dv <;> simp [dvD] at h <;> subst h
  · exact .non
  · exact .bl _
  · exact .int _
  · exact .str _
def kIn (tab : List (Str × He.Dv)) (x : D) : Option D := match x with
  | .str z => some (.bl (tab.lookup z).isSome)
  | _ => none
section
variable {X : Cx} {W : WZ} {O : List Nat} {a : Expr} {fa : EF} {k : Kd} {x : Str} {tab : List (Str × He.Dv)} {p pos : Pos}
end
end DL

set_option maxHeartbeats 1000000
/-! displayed dicts; the hook with further facts -/
namespace DL
open PySem PySem.Spec PyProof.Rows L2

def putP (kvs : List (D × D)) (k v : D) : Option (List (D × D)) := (kOf k).map fun kk => putKD kvs (fun x => decide (kOf x = some kk)) k v
def evP : List (EF × EF) → DEnv → Sto → List (D × D) → Res
  | [], _, S, acc => .ok (.dct acc) S
  | (fk, fv) :: r, ρ, S, acc => (fk ρ S).bind fun k S1 => (fv ρ S1).bind fun v S2 => match putP acc k v with
    | some acc' => evP r ρ S2 acc'
    | none => .stuck
def eDisp (fs : List (EF × EF)) : EF := fun ρ S => evP fs ρ S []
structure DPs (X : Cx) (W : WZ) (O : List Nat) (pos : Pos) (keys : List (Option Expr)) (values : List Expr) (fs : List (EF × EF)) : Prop where
  pp : PPs X pos keys values (fs.map fun p => (rd X.K .e W O p.1, rd X.K .e W O p.2))
section
variable {X : Cx} {W : WZ} {O : List Nat} {k v : Expr} {ks : List (Option Expr)} {vs : List Expr} {fk fv : EF} {fs : List (EF × EF)} {pos : Pos}
theorem dps_nil : DPs X W O pos [] [] [] := ⟨pps_nil⟩
theorem dps_cons (hk : DE .e X W O k fk) (hv : DE .e X W O v fv) (hr : DPs X W O pos ks vs fs) : DPs X W O pos (some k :: ks) (v :: vs) ((fk, fv) :: fs) := ⟨pps_cons hk.pe hv.pe hr.pp⟩
theorem disp_of {K : PySem.W.Frag} {σ : L2.St} {ent : Ent W.xc} {ρ : DEnv} {p : Addr} : ∀ {fs : List (EF × EF)} {w : Wit} {H : Hp} {S : Sto} {acc : List (D × D)} {Q : VK} {n : Nat} {pre : List (L2.Key × V)}, fs.length + n ≤ 15 → pre.length = n → R K ent O w H σ ρ S → Own K w H (.dct []) p → RepK K w acc (mergeK [] pre) →
    Post K .e w H W σ (evP fs ρ S acc) (fun _ _ => True) → (∀ d S2 kvs H2 w2, evP fs ρ S acc = .ok (.dct d) S2 → Ext w H w2 H2 → Gd K w2 H2 S2 → Own K w2 H2 (.dct []) p → RepK K w2 d (mergeK [] kvs) → Q (.ref p) (upd H2 p (.dK (mergeK [] kvs)))) →
    (∀ x S2, evP fs ρ S acc = .exn x S2 → ∀ cls dx H' w', Ext w H w' H' → Gd K w' H' S2 → RepX K w' H' x cls dx → W.wx cls dx σ H') →
    tPairs (fs.map fun p => (rd K .e W O p.1, rd K .e W O p.2)) σ H fun ps H2 => H2 p = some (.dK []) ∧ ∃ kvs : List (L2.Key × V), pre.map (fun kv => (kV kv.1, kv.2)) ++ ps = kvs.map (fun kv => (kV kv.1, kv.2)) ∧ kvs.length ≤ 15 ∧ Q (.ref p) (upd H2 p (.dK (mergeK [] kvs))) := by
  intro fs
  induction fs with
  | nil =>
    intro w H S acc Q n pre hn hp r o ra _ q _
    obtain ⟨_, _, vs, hH, rv⟩ := id o
    cases rv
    refine ⟨hH, pre, by simp, by simp at hn; omega, q _ _ _ _ _ rfl (.refl _ _) r.gd o ra⟩
  | cons f fs ih =>
    obtain ⟨fk, fv⟩ := f
    intro w H S acc Q n pre hn hp r o ra ps q qx
    show rd K .e W O fk σ H fun x H1 => rd K .e W O fv σ H1 fun y H2 => _
    refine ⟨ent, w, ρ, S, r, ?_⟩
    unfold evP at ps q qx
    cases e1 : fk ρ S with
    | stuck => rw [e1] at ps; exact ps.elim
    | exn x S1 => exact qx x S1 (by rw [e1]; rfl)
    | ok dk S1 =>
      rw [e1] at ps q qx
      simp only [Res.bind_ok] at ps q qx
      intro vk H1 w1 x1 g1 z1
      refine ⟨ent, w1, ρ, S1, r.later x1 g1, ?_⟩
      cases e2 : fv ρ S1 with
      | stuck => rw [e2] at ps; exact ps.elim
      | exn x S2 => exact fun cls dx H' w' y g' h => qx x S2 (by rw [e2]; rfl) cls dx H' w' (x1.trans y) g' h
      | ok dv S2 =>
        rw [e2] at ps q qx
        simp only [Res.bind_ok] at ps q qx
        intro vv H2 w2 x2 g2 z2
        cases e3 : putP acc dk dv with
        | none => rw [e3] at ps; exact ps.elim
        | some acc' =>
          rw [e3] at ps q qx
          dsimp only at ps q qx
          unfold putP at e3
          cases ek : kOf dk with
          | none => rw [ek] at e3; cases e3
          | some kk =>
            rw [ek] at e3; cases e3
            have evk : vk = kV kk := kOf_rep z1 ek
            have ra2 : RepK K w2 (putKD acc (fun x => decide (kOf x = some kk)) dk dv) (mergeK [] (pre ++ [(kk, vv)])) := by
              have : mergeK [] (pre ++ [(kk, vv)]) = putK (mergeK [] pre) kk vv := by unfold mergeK; rw [List.foldl_append]; rfl
              rw [this, kD_kOf ek]
              exact RepK.put ((ra.mono x1.le).mono x2.le) z2
            have := ih (Q := Q) (n := n + 1) (pre := pre ++ [(kk, vv)]) (by simp at hn; omega) (by simp [hp]) ((r.later x1 g1).later x2 g2) ((o.ext x1).ext x2) ra2 ((Post.later (x1.trans x2) ps)) (fun d S3 kvs H3 w3 e4 x3 g3 o3 r3 => q d S3 kvs H3 w3 e4 (x1.trans (x2.trans x3)) g3 o3 r3) (fun x S3 e4 cls dx H' w' y g' h => qx x S3 e4 cls dx H' w' (x1.trans (x2.trans y)) g' h)
            rw [evk]
            simpa only [List.map_append, List.map_cons, List.map_nil, List.append_assoc, List.singleton_append, List.cons_append, List.nil_append] using this
theorem de_disp (h : DPs X W O pos ks vs fs) (hall : ks.all (·.isSome) = true := by rfl) (hl : ks.length = vs.length := by rfl) (h0 : ks ≠ [] := by simp) (h15 : fs.length ≤ 15 := by decide) (h15' : ks.length ≤ 15 := by decide) : DE .f X W O (.Dict ks vs pos) (eDisp fs) := by
  refine ⟨(pe_disp h.pp hall hl h0 h15').imp ?_⟩
  rintro σ H Q ⟨ent, w, ρ, S, r, p⟩ a na
  have x0 : Ext w H w (upd H a (.dK [])) := Ext.newO w na
  have r0 := r.later x0 (r.gd.newO (o := .dK []) na)
  have o0 : Own X.K w (upd H a (.dK [])) (.dct []) a := ⟨r.gd.noneF na, r.gd.nophi na, [], upd_same, .nil⟩
  have dct : ∀ (fs : List (EF × EF)) (ρ : DEnv) (S : Sto) (acc : List (D × D)) (d : D) (S2 : Sto), evP fs ρ S acc = .ok d S2 → ∃ kvs, d = .dct kvs := by
    intro fs
    induction fs with
    | nil => intro ρ S acc d S2 e; cases e; exact ⟨_, rfl⟩
    | cons f fs ih =>
      intro ρ S acc d S2 e
      unfold evP at e
      cases e1 : f.1 ρ S with
      | stuck => rw [e1] at e; cases e
      | exn x S1 => rw [e1] at e; cases e
      | ok dk S1 =>
        rw [e1] at e
        simp only [Res.bind_ok] at e
        cases e2 : f.2 ρ S1 with
        | stuck => rw [e2] at e; cases e
        | exn x S1 => rw [e2] at e; cases e
        | ok dv S3 =>
          rw [e2] at e
          simp only [Res.bind_ok] at e
          cases e3 : putP acc dk dv with
          | none => rw [e3] at e; cases e
          | some acc' => rw [e3] at e; exact ih _ _ _ _ _ e
  have fin := disp_of (W := W) (Q := Q) (acc := []) (pre := []) (n := 0) (by simpa using h15) rfl r0 o0 (by unfold mergeK; exact .nil) ?_ ?_ ?_
  · simpa using fin
  · have p' : Post X.K .f w H W σ (evP fs ρ S []) Q := p
    cases e : evP fs ρ S [] with
    | ok d S2 => exact fun _ _ _ _ _ _ => trivial
    | exn x S2 => rw [e] at p'; exact fun cls dx H' w' y g' h => p' cls dx H' w' (x0.trans y) g' h
    | stuck => rw [e] at p'; exact p'
  · intro d S2 kvs H2 w2 e x2 g2 o2 r2
    have p' : Post X.K .f w H W σ (evP fs ρ S []) Q := p
    rw [e] at p'
    exact p' _ _ w2 ((x0.trans x2).updO na) (g2.updO o2.1 o2.2.1 o2.pd) ⟨a, rfl, na, own_dct o2 r2⟩
  · intro x S2 e cls dx H' w' y g' hx
    have p' : Post X.K .f w H W σ (evP fs ρ S []) Q := p
    rw [e] at p'
    exact p' cls dx H' w' (x0.trans y) g' hx
end
/-! ### the hook -/
abbrev AlX : Type := He.AlT × List Bool
def obsX (fa : List He.Fa) (fn : List He.DefD) (ts : List He.Tab) (bs : List (PySem.W.Frag → Bool)) (K : PySem.W.Frag) : AlX := (He.obsT fa fn ts K, bs.map fun b => b K)
def valX (fn : List He.DefD) (ts : List He.Tab) (bs : List (PySem.W.Frag → Bool)) (w : World) : AlX := (He.valT fn ts w, bs.map fun _ => true)
def obsXG (n : Nat) (fa : List He.Fa) (fn : List He.DefD) (ts : List He.Tab) (bs : List (PySem.W.Frag → Bool)) (g : Addr → Option Obj) : AlX := obsX fa fn ts bs (He.frG g (He.asD g n))
def SaysX (fa : List He.Fa) (fn : List He.DefD) (ts : List He.Tab) (bs : List (PySem.W.Frag → Bool)) (w : World) (K : PySem.W.Frag) : Prop := obsX fa fn ts bs K = valX fn ts bs w
def hookX (n : Nat) (fa : List He.Fa) (fn : List He.DefD) (ts : List He.Tab) (bs : List (PySem.W.Frag → Bool)) : PySem.W.Hook where
  α := AlX
  obs := fun s => obsXG n fa fn ts bs s.heap.get?
  val := fun w => valX fn ts bs w
  says := fun w h => ∃ K : PySem.W.Frag, K.In h ∧ SaysX fa fn ts bs w K
  of := fun _ _ e => ⟨_, He.frG_in, e⟩
  keeps := fun _ _ _ ⟨K, hK, c⟩ k => ⟨K, PySem.W.Frag.In.keeps hK k, c⟩
theorem obsXG_eq {n : Nat} {fa : List He.Fa} {fn : List He.DefD} {ts : List He.Tab} {bs : List (PySem.W.Frag → Bool)} {g : Addr → Option Obj} {s : Shared} (h : ∀ a, g a = s.heap.get? a) : obsXG n fa fn ts bs g = (hookX n fa fn ts bs).obs s := by
  have e : g = s.heap.get? := funext h
  rw [e]
  rfl
section
variable {fa : List He.Fa} {fn : List He.DefD} {ts : List He.Tab} {bs : List (PySem.W.Frag → Bool)} {w : World} {K : PySem.W.Frag}
theorem SaysX.t (c : SaysX fa fn ts bs w K) : He.SaysT fa fn ts w K := congrArg (fun z : AlX => z.1) c
theorem SaysX.d (c : SaysX fa fn ts bs w K) : He.SaysD fa fn K := c.t.d
theorem SaysX.b (c : SaysX fa fn ts bs w K) (i : Nat) {b : PySem.W.Frag → Bool} (h : bs[i]? = some b := by rfl) : b K = true := by
  have e : bs.map (fun b => b K) = bs.map fun _ => true := congrArg (fun z : AlX => z.2) c
  have e2 : (bs.map (fun b => b K))[i]? = (bs.map fun _ => true)[i]? := by rw [e]
  rw [List.getElem?_map, List.getElem?_map, h] at e2
  exact Option.some.inj e2
end
def clsB : Stmt → List Stmt
  | .ClassDef _ _ _ b _ _ _ _ _ _ _ => b
  | _ => []
end DL

set_option maxHeartbeats 4000000
namespace DL
open PySem PySem.Spec PyProof.Rows L2
/-- the heap without its tables -/
def noT (H : Hp) : Hp := fun a => match H a with
  | some (.tbl _) => none
  | o => o
theorem noT_sub {H : Hp} {a : Addr} {o : HO} (e : noT H a = some o) : H a = some o ∧ ∀ ps, o ≠ .tbl ps := by
  unfold noT at e
  cases h : H a with
  | none => rw [h] at e; cases e
  | some u =>
    rw [h] at e
    cases u with
    | tbl ps => cases e
    | _ => cases e; exact ⟨rfl, fun ps z => by cases z⟩
theorem noT_of {H : Hp} {a : Addr} {o : HO} (e : H a = some o) (h : ∀ ps, o ≠ .tbl ps) : noT H a = some o := by
  unfold noT
  rw [e]
  cases o with
  | tbl ps => exact absurd rfl (h ps)
  | _ => rfl
theorem sqL_noT {K : PySem.W.Frag} {H : Hp} {a : Addr} {vs : List V} (h : SqL K H a vs) : SqL K (noT H) a vs := by
  rcases h with (h | ⟨o, h⟩) | h
  · exact .inl (.inl (noT_of h fun ps z => by cases z))
  · exact .inl (.inr ⟨o, noT_of h fun ps z => by cases z⟩)
  · exact .inr h
/-- a def's promise, its tables told -/
def spT (T : List (Addr × Str)) (K : PySem.W.Frag) (n : Nat) (ff : FF) : Sp := fun vs H Q E => vs.length = n ∧ ∃ w S ds, (T ≠ [] → w.T = T) ∧ Gd K w H S ∧ Reps K w ds vs ∧ PostF K w H (ff ds S) Q E
/-- the script's list, read as data -/
theorem start_spT {T : List (Addr × Str)} {K : PySem.W.Frag} {H : Hp} {a : Addr} {ns : List Int} {f : FF} (hT : LamX.Tabs T H) (hf : ∀ cells : List Int, ∃ S, f [.lst (cells.map D.int)] [] = .ok (.bl true) S) (hS : SqL K H a (ns.map V.int)) :
    spT T K 1 f [.ref a] H (fun v _ => v = .bl true) fun _ _ _ => False := by
  refine ⟨rfl, ⟨noT H, fun _ => 0, 0, T⟩, [], [.lst (ns.map D.int)], fun _ => rfl, ⟨rfl, fun a o e => (noT_sub e).1, fun n o e => by simp at e, fun i j hi => absurd hi (Nat.not_lt_zero _), fun i hi => absurd hi (Nat.not_lt_zero _), hT, fun a ps e => (noT_sub e).2 ps rfl⟩, .cons (.lst (sqL_noT hS) ?_) .nil, ?_⟩
  · clear hS
    induction ns with
    | nil => exact .nil
    | cons n ns ih => exact .cons (.int n) ih
  · obtain ⟨S', e⟩ := hf ns
    rw [e]
    intro v H' w' _ _ r
    cases r
    rfl
theorem start_sp {K : PySem.W.Frag} {H : Hp} {a : Addr} {ns : List Int} {f : FF} (hf : ∀ cells : List Int, ∃ S, f [.lst (cells.map D.int)] [] = .ok (.bl true) S) (hS : SqL K H a (ns.map V.int)) :
    spD K 1 f [.ref a] H (fun v _ => v = .bl true) fun _ _ _ => False := by
  obtain ⟨h1, w, S, ds, _, g, r, p⟩ := start_spT (T := []) (f := f) (fun p hp => by cases hp) hf hS
  exact ⟨h1, w, S, ds, g, r, p⟩
/-- a law that answers True on every script, its walk told -/
theorem lawAt {l : PySem.W.OpenLaw} {w : World} {K : PySem.W.Frag} {mg : Str → Option Value} {fa : Addr} {h : Heap} {k n : Nat} {x : Str} {f : FF}
    (hf : ∀ cells : List Int, ∃ S, f [.lst (cells.map D.int)] [] = .ok (.bl true) S) (hmg : mg ("law" : Str) = some (.ref fa))
    (o : ∃ fd : FuncData, (∀ (s : Shared) (u : Value), BindsTo s fd ⟨[u], []⟩ [(x, u)]) ∧ mg ("law" : Str) = some (.ref (He.ga K "law")) ∧ ∀ base : Heap, FnOk l.prog w K mg base (L2.CX l.prog w) k (He.ga K "law") fd [x] (spD K 1 f)) :
    LamX.LawAtS l w K (L2.CX l.prog w) k n x mg fa h := by
  obtain ⟨fd, hb, hm, hF⟩ := o
  have e := hmg.symm.trans hm
  cases e
  exact ⟨fd, [], spD K 1 f, fun _ hp => absurd hp (by simp), fun _ hp => absurd hp (by simp), fun _ hp => absurd hp (by simp), hb, fun H a ns _ _ _ hS => start_sp hf hS, fun base _ _ _ => hF base⟩
theorem noCX {P : Program} (w : World) (H : Hp) (s : Shared) (e : Value) (s' : Shared) (h : L2.CX P w [] H s (fun _ _ _ => False) e s') : False := by
  obtain ⟨_, _, _, _, _, _, _, _, _, _, _, _, z⟩ := h
  exact z
end DL

/-! plain lemmas on the data layer's functions -/
namespace DL
open PySem PySem.Spec PyProof.Rows L2

/-! ### data that may be compared -/
def okD (n : Nat) (d : D) : Bool := plD d && ((toPy d).canLay0 && decide ((toPy d).depth ≤ n))
theorem okD_sh {n : Nat} {d : D} (h : okD n d = true) (hn : n ≤ 64) : shD d = true := by
  simp only [okD, shD, SeqAt.shaped, Bool.and_eq_true, decide_eq_true_eq] at h ⊢
  exact ⟨h.1, h.2.1, by omega⟩
theorem okD_mono {n m : Nat} {d : D} (h : okD n d = true) (hn : n ≤ m) : okD m d = true := by
  simp only [okD, Bool.and_eq_true, decide_eq_true_eq] at h ⊢
  exact ⟨h.1, h.2.1, by omega⟩
theorem canLayAll0_of : ∀ {ds : List D}, (∀ d ∈ ds, (toPy d).canLay0 = true) → PyData.canLayAll0 (toPys ds) = true
  | [], _ => by simp [toPys, PyData.canLayAll0]
  | d :: ds, h => by
    simp only [toPys, PyData.canLayAll0, Bool.and_eq_true]
    exact ⟨h d List.mem_cons_self, canLayAll0_of fun x hx => h x (List.mem_cons_of_mem _ hx)⟩
theorem depthAll_of {n : Nat} : ∀ {ds : List D}, (∀ d ∈ ds, (toPy d).depth ≤ n) → PyData.depthAll (toPys ds) ≤ n
  | [], _ => by simp [toPys, PyData.depthAll]
  | d :: ds, h => by
    simp only [toPys, PyData.depthAll]
    have h1 := h d List.mem_cons_self
    have h2 := depthAll_of (ds := ds) (n := n) fun x hx => h x (List.mem_cons_of_mem _ hx)
    omega
theorem okD_tup {n : Nat} {ds : List D} (h : ∀ d ∈ ds, okD n d = true) : okD (n + 1) (.tup ds) = true := by
  simp only [okD, Bool.and_eq_true, decide_eq_true_eq] at h ⊢
  refine ⟨by simp only [plD, plDs_all, List.all_eq_true]; exact fun d hd => (h d hd).1, ?_, ?_⟩
  · simp only [toPy, PyData.canLay0]; exact canLayAll0_of fun d hd => (h d hd).2.1
  · simp only [toPy, PyData.depth]; have := depthAll_of (ds := ds) (n := n) fun d hd => (h d hd).2.2; omega
theorem okD_lst {n : Nat} {ds : List D} (h : ∀ d ∈ ds, okD n d = true) : okD (n + 1) (.lst ds) = true := by
  simp only [okD, Bool.and_eq_true, decide_eq_true_eq] at h ⊢
  refine ⟨by simp only [plD, plDs_all, List.all_eq_true]; exact fun d hd => (h d hd).1, ?_, ?_⟩
  · simp only [toPy, PyData.canLay0]; exact canLayAll0_of fun d hd => (h d hd).2.1
  · simp only [toPy, PyData.depth]; have := depthAll_of (ds := ds) (n := n) fun d hd => (h d hd).2.2; omega
theorem okD_int (i : Int) : okD 0 (.int i) = true := by simp [okD, plD, toPy, PyData.canLay0, PyData.depth]
/-! ### == -/
theorem beq_dec {α : Type} [DecidableEq α] [BEq α] [LawfulBEq α] (a b : α) : (a == b) = decide (a = b) := by by_cases h : a = b <;> simp [h]
theorem eqD_int (a b : Int) : eqD (.int a) (.int b) = decide (a = b) := by simp only [eqD, toPy, PyData.eqv]; exact beq_dec a b
theorem eqD_str (a b : Str) : eqD (.str a) (.str b) = decide (a = b) := by simp only [eqD, toPy, PyData.eqv]; exact beq_dec a b
theorem eqD_nil (xs : List D) : eqD (.tup xs) (.tup []) = xs.isEmpty := by cases xs <;> simp only [eqD, toPy, toPys, PyData.eqv, PyData.eqvAll] <;> rfl
theorem eqD_nilL (xs : List D) : eqD (.lst xs) (.lst []) = xs.isEmpty := by cases xs <;> simp only [eqD, toPy, toPys, PyData.eqv, PyData.eqvAll] <;> rfl

/-! ### comprehensions, loops -/
/-- a comprehension whose parts leave the store alone -/
theorem lcD_pure {g : GF} {fc fe : EF} {ρ : DEnv} {S : Sto} {pc : D → Bool} {pe : D → D} : ∀ {xs acc : List D}, (∀ x ∈ xs, ∃ ρ1, g x ρ = some ρ1 ∧ fc ρ1 S = .ok (.bl (pc x)) S ∧ (pc x = true → fe ρ1 S = .ok (pe x) S)) →
    lcD g fc fe xs acc ρ S = .ok (.lst (acc ++ (xs.filter pc).map pe)) S
  | [], acc, _ => by simp [lcD]
  | x :: xs, acc, h => by
    obtain ⟨ρ1, e1, e2, e3⟩ := h x List.mem_cons_self
    unfold lcD
    rw [e1]
    simp only [e2]
    cases hb : pc x with
    | false =>
      simp only [hb]
      rw [lcD_pure fun y hy => h y (List.mem_cons_of_mem _ hy)]
      simp [hb]
    | true =>
      simp only [e3 hb]
      rw [lcD_pure fun y hy => h y (List.mem_cons_of_mem _ hy)]
      simp [hb]
/-- a loop whose turns all go on -/
theorem forD_inv {g : GF} {body : SF} (I : Nat → DEnv → Sto → Prop) {xs : List D} : ∀ {ys : List D} {i : Nat} {ρ : DEnv} {S : Sto}, i ≤ xs.length → xs.drop i = ys → I i ρ S → (∀ i x ρ S, xs[i]? = some x → I i ρ S → ∃ ρ1 ρ2 S2, g x ρ = some ρ1 ∧ (body ρ1 S = .nx ρ2 S2 ∨ body ρ1 S = .ct ρ2 S2) ∧ I (i + 1) ρ2 S2) →
    ∃ ρ' S', forD g body ys ρ S = .nx ρ' S' ∧ I xs.length ρ' S'
  | [], i, ρ, S, hle, e, h, _ => by
    have hq : i = xs.length := Nat.le_antisymm hle (List.drop_eq_nil_iff.mp e)
    subst hq; exact ⟨ρ, S, rfl, h⟩
  | y :: ys, i, ρ, S, hle, e, h, hs => by
    have hx : xs[i]? = some y := by
      have := congrArg (fun l => l[0]?) e
      simpa using this
    have hi : i < xs.length := (List.getElem?_eq_some_iff.mp hx).1
    obtain ⟨ρ1, ρ2, S2, e1, e2, h2⟩ := hs i y ρ S hx h
    have e' : xs.drop (i + 1) = ys := by
      have := congrArg List.tail e
      simpa [List.tail_drop] using this
    obtain ⟨ρ', S', e3, h3⟩ := forD_inv I hi e' h2 hs
    refine ⟨ρ', S', ?_, h3⟩
    unfold forD
    rw [e1]
    rcases e2 with e2 | e2 <;> simp only [e2] <;> exact e3
theorem forD_all {g : GF} {body : SF} (I : Nat → DEnv → Sto → Prop) {xs : List D} {ρ : DEnv} {S : Sto} (h : I 0 ρ S) (hs : ∀ i x ρ S, xs[i]? = some x → I i ρ S → ∃ ρ1 ρ2 S2, g x ρ = some ρ1 ∧ (body ρ1 S = .nx ρ2 S2 ∨ body ρ1 S = .ct ρ2 S2) ∧ I (i + 1) ρ2 S2) :
    ∃ ρ' S', forD g body xs ρ S = .nx ρ' S' ∧ I xs.length ρ' S' := forD_inv I (i := 0) (Nat.zero_le _) (by simp) h hs
theorem dInts_len' (lo : Int) (n : Nat) : (dInts lo n).length = n := by simp [dInts]
theorem dInts_get {lo : Int} {n i : Nat} {x : D} (h : (dInts lo n)[i]? = some x) : i < n ∧ x = .int (lo + i) := by
  unfold dInts at h
  have hi : i < n := by have := (List.getElem?_eq_some_iff.mp h).1; simpa using this
  rw [List.getElem?_map, List.getElem?_range hi] at h
  cases h
  exact ⟨hi, rfl⟩
theorem atI_0 {α : Type} (x : α) (r : List α) : L2.atI (x :: r) 0 = some x := by
  unfold L2.atI ixN
  rw [if_pos (by decide), if_pos (by simp only [List.length_cons]; omega)]
  rfl
theorem atI_1 {α : Type} (x y : α) (r : List α) : L2.atI (x :: y :: r) 1 = some y := by
  unfold L2.atI ixN
  rw [if_pos (by decide), if_pos (by simp only [List.length_cons]; omega)]
  rfl
theorem atI_nat {α : Type} {xs : List α} {i : Nat} (h : i < xs.length) : L2.atI xs (i : Int) = xs[i]? := by
  unfold L2.atI ixN
  rw [if_pos (by omega), if_pos (by omega)]
  rfl
end DL

set_option maxHeartbeats 1000000
/-! instances of plain classes: fields read and written, objects made, methods, properties -/
namespace DL
open PySem PySem.Spec PyProof.Rows L2
/-- class and fields of an instance -/
def insOf (S : Sto) : D → Option (Str × List (Str × D))
  | .ins c fs => some (c, fs)
  | .obj n => (match S[n]? with
    | some (.ins c fs) => some (c, fs)
    | _ => none)
  | _ => none
theorem ins_at {K : PySem.W.Frag} {w : Wit} {H : Hp} {S : Sto} {d : D} {v : V} {c : Str} {fs : List (Str × D)} (g : Gd K w H S) (z : Rep K w d v) (e : insOf S d = some (c, fs)) :
    ∃ a dx vs, v = .ref a ∧ H a = some (.ins (He.ga K c) dx vs) ∧ RepF K w fs vs := by
  cases d with
  | ins c' fs' =>
    cases e
    cases z with
    | ins h r => exact ⟨_, _, _, rfl, g.sub _ _ h, r⟩
  | obj n =>
    cases z with
    | obj hm =>
      unfold insOf at e
      dsimp only at e
      cases e1 : S[n]? with
      | none => rw [e1] at e; cases e
      | some so =>
        rw [e1] at e
        cases so with
        | ins c' fs' =>
          cases e
          obtain ⟨dx, vs, hH, r⟩ := g.sto n _ e1
          exact ⟨_, dx, vs, rfl, hH, r⟩
        | _ => cases e
  | _ => cases e
def putFD (f : Str) (v : D) : List (Str × D) → List (Str × D)
  | [] => [(f, v)]
  | (g, x) :: r => if g = f then (g, v) :: r else (g, x) :: putFD f v r
theorem RepF.put {K : PySem.W.Frag} {w : Wit} {f : Str} {d : D} {v : V} (hd : Rep K w d v) : ∀ {fs : List (Str × D)} {vs : List (Str × V)}, RepF K w fs vs → RepF K w (putFD f d fs) (putF f v vs)
  | _, _, .nil => .cons hd .nil
  | _, _, @RepF.cons _ _ k d' v' ds vs h t => by
    unfold putFD putF
    by_cases q : k = f
    · rw [if_pos q, if_pos q]; exact .cons hd t
    · rw [if_neg q, if_neg q]; exact .cons h (RepF.put hd t)
theorem RepF.length {K : PySem.W.Frag} {w : Wit} : ∀ {fs : List (Str × D)} {vs : List (Str × V)}, RepF K w fs vs → fs.length = vs.length
  | _, _, .nil => rfl
  | _, _, .cons h t => by simp [RepF.length t]
/-! ### e.f -/
def eFld (cs : List Str) (f : Str) (e : EF) : EF := fun ρ S => match e ρ S with
  | .ok d S1 => (match insOf S1 d with
    | some (c, fs) => if c ∈ cs then (match fs.lookup f with
      | some x => .ok x S1
      | none => .stuck) else .stuck
    | none => .stuck)
  | .exn x S1 => .exn x S1
  | .stuck => .stuck
section
variable {X : Cx} {W : WZ} {L : Lp} {O O' : List Nat} {e o a : Expr} {es : List Expr} {fe fo fv : EF} {fa : AF} {ff : FF} {f x m c : Str} {cs fs ps : List Str} {p pos pos' apos : Pos} {k j : Nat} {fd : FuncData} {fI : Addr}
theorem fld_of {K : PySem.W.Frag} (hT : ∀ c ∈ cs, Cls K (He.ga K c) ∧ NoAttr K (He.ga K c) f) : ∀ σ H Q, rd K .e W O (eFld cs f fe) σ H Q → tFld K (rd K .e W O fe) f σ H Q := by
  rintro σ H Q ⟨ent, w, ρ, S, r, p⟩
  refine ⟨ent, w, ρ, S, r, ?_⟩
  unfold eFld at p
  cases e1 : fe ρ S with
  | stuck => rw [e1] at p; exact p
  | exn x S1 => rw [e1] at p; exact p
  | ok d S1 =>
    rw [e1] at p
    intro v H1 w1 x1 g1 z
    have z : Rep K w1 d v := z
    dsimp only at p
    cases e2 : insOf S1 d with
    | none => rw [e2] at p; exact p.elim
    | some cf =>
      obtain ⟨c, fs⟩ := cf
      rw [e2] at p
      dsimp only at p
      by_cases hc : c ∈ cs
      · rw [if_pos hc] at p
        cases e3 : fs.lookup f with
        | none => rw [e3] at p; exact p.elim
        | some dv =>
          rw [e3] at p
          obtain ⟨a, dx, vs, rfl, hH, rf⟩ := ins_at g1 z e2
          obtain ⟨u, l, ru⟩ := rf.look e3
          exact ⟨a, _, dx, vs, u, rfl, hH, (hT c hc).1, (hT c hc).2, l, p u H1 w1 x1 g1 ru⟩
      · rw [if_neg hc] at p; exact p.elim
theorem de_fld (cs : List Str) (hT : ∀ c ∈ cs, Cls X.K (He.ga X.K c) ∧ NoAttr X.K (He.ga X.K c) f) (he : DE .e X W O e fe)
    (hb : attributeBase e f X.env (eval e X.env) = eval e X.env := by rfl) : DE .e X W O (.Attribute e f pos) (eFld cs f fe) := ⟨(pe_fld he.pe hb).imp (fld_of hT)⟩
/-! ### o.f = e -/
def sFldO (cs : List Str) (f : Str) (fo fv : EF) : SF := fun ρ S => sBind (fv ρ S) ρ fun v S1 => sBind (fo ρ S1) ρ fun o S2 => match o with
  | .obj n => (match S2[n]? with
    | some (.ins c fs) => if c ∈ cs ∧ fs.length < 1000 then .nx ρ (S2.set n (.ins c (putFD f v fs))) else .stuck
    | _ => .stuck)
  | _ => .stuck
theorem fldO_of {K : PySem.W.Frag} (hT : ∀ c ∈ cs, Cls K (He.ga K c) ∧ NoAttr K (He.ga K c) f) : ∀ En σ H, rdS K L W O O (sFldO cs f fo fv) En σ H → sFld K (rd K .e W O fo) (rd K .e W O fv) f En σ H := by
  rintro En σ H ⟨ent, w, ρ, S, r, p⟩
  refine ⟨ent, w, ρ, S, r, SPost.bind r p fun v S1 vv H1 w1 x1 g1 z1 q1 => ?_⟩
  have r1 := r.later x1 g1
  have z1 : Rep K w1 v vv := z1
  refine ⟨ent, w1, ρ, S1, r1, SPost.bind r1 q1 fun o S2 ov H2 w2 x2 g2 z2 q2 => ?_⟩
  have r2 := r1.later x2 g2
  cases o with
  | obj n =>
    dsimp only at q2
    have z2 : Rep K w2 (.obj n) ov := z2
    cases z2 with
    | obj hm =>
      cases e1 : S2[n]? with
      | none => rw [e1] at q2; exact q2.elim
      | some so =>
        rw [e1] at q2
        cases so with
        | ins c fs =>
          dsimp only at q2
          by_cases hc : c ∈ cs ∧ fs.length < 1000
          · rw [if_pos hc] at q2
            obtain ⟨dx, vs, hH, rf⟩ := g2.sto n _ e1
            refine ⟨w2.phi n, _, dx, vs, rfl, hH, (hT c hc.1).1, (hT c hc.1).2, by rw [← rf.length]; exact hc.2, ?_⟩
            exact q2 w2 _ σ (R.sto r2 e1 ⟨dx, _, upd_same, rf.put (z1.mono x2.le)⟩)
          · rw [if_neg hc] at q2; exact q2.elim
        | _ => exact q2.elim
  | _ => exact q2.elim
theorem ds_fld (cs : List Str) (hT : ∀ c ∈ cs, Cls X.K (He.ga X.K c) ∧ NoAttr X.K (He.ga X.K c) f) (ho : DE .e X W O o fo) (hv : DE .e X W O e fv)
    (hs : swapsWith e (some (.Attribute o f pos')) pos.line X.env = pure false := by rfl) : DS X W L O (.Assign [.Attribute o f pos'] e pos) O (sFldO cs f fo fv) := ⟨(ps_fld ho.pe hv.pe hs).imp (fldO_of hT)⟩
/-! ### an object made -/
def eMake (c : Str) (ff : FF) (fa : AF) : EF := fun ρ S => match fa ρ S with
  | .ok ds S1 => (match ff (.obj S1.length :: ds) (S1 ++ [.ins c []]) with
    | .ok .non S2 => .ok (.obj S1.length) S2
    | .ok _ _ => .stuck
    | .exn x S2 => .exn x S2
    | .stuck => .stuck)
  | .exn x S1 => .exn x S1
  | .stuck => .stuck
def tMkS (C : Addr) (sp : Sp) (E : L2.St → XK) (t : TA) : TE := fun σ H Q => t σ H fun vs H1 => ∀ x dx, H1 x = none → H1 dx = none → dx ≠ x → sp (.ref x :: vs) (L2.upd (L2.upd H1 dx (.own x)) x (.ins C dx [])) (fun v H2 => v = .non ∧ Q (.ref x) H2) (E σ)
theorem make_of {K : PySem.W.Frag} {n : Nat} (hlen : ∀ ρ S ds S1, fa ρ S = .ok ds S1 → ds.length = n) : ∀ σ H Q, rd K .e W O (eMake c ff fa) σ H Q → tMkS (He.ga K c) (spD K (n + 1) ff) (fun σ cls dx H' => W.wx cls dx σ H') (rdA K (PRep K) W O fa) σ H Q := by
  rintro σ H Q ⟨ent, w, ρ, S, r, p⟩
  refine ⟨ent, w, ρ, S, r, ?_⟩
  unfold eMake at p
  cases e1 : fa ρ S with
  | stuck => rw [e1] at p; exact p
  | exn x S1 => rw [e1] at p; exact p
  | ok ds S1 =>
    rw [e1] at p
    intro vs H1 w1 x1 g1 z a dx na nd ne
    have z : Reps K w1 ds vs := z
    dsimp only at p
    have x2 := Ext.newO (o := HO.own a) w1 nd
    have g2 := g1.newO (o := HO.own a) nd
    have na2 : L2.upd H1 dx (.own a) a = none := by rw [upd_ne (Ne.symm ne)]; exact na
    have x3 := Ext.add (o := HO.ins (He.ga K c) dx []) g2 na2
    have g3 := g2.add (so := .ins c []) na2 ⟨dx, [], upd_same, .nil⟩
    have ea : (w1.add a).phi S1.length = a := by simp [Wit.add, g1.len]
    have q : Rep K (w1.add a) (.obj S1.length) (.ref a) := by
      have q : Rep K (w1.add a) (.obj S1.length) (.ref ((w1.add a).phi S1.length)) := .obj (by simp [Wit.add, g1.len])
      rw [ea] at q
      exact q
    have hl : ds.length = n := hlen _ _ _ _ e1
    refine ⟨by simp [← z.length, hl], w1.add a, S1 ++ [.ins c []], .obj S1.length :: ds, g3, .cons q (z.mono (Le.add w1 a)), ?_⟩
    have xx := x1.trans (x2.trans x3)
    cases e2 : ff (.obj S1.length :: ds) (S1 ++ [.ins c []]) with
    | stuck => rw [e2] at p; exact p.elim
    | exn x S2 =>
      rw [e2] at p
      intro cls d H' w' y g' hx
      exact p cls d H' w' (xx.trans y) g' hx
    | ok d S2 =>
      rw [e2] at p
      cases d with
      | non =>
        intro v H' w' y g' hv
        cases hv
        exact ⟨rfl, p (.ref a) H' w' (xx.trans y) g' (Rep.mono y.le q)⟩
      | _ => exact p.elim
theorem run_mkS {CX : CXT} {C f : Addr} {sp : Sp} {E : L2.St → XK} {pins : List (Addr × Obj)} {σ : L2.St} {H : Hp} {s : Shared} {Q : VK} {us : List Value} {vs : List V} (M : Mk X.K C f) (F : FnOk X.prog X.w X.K X.mg X.base CX k f fd ps sp) (hr : Room (k + 1) X.A) (hb : Binds X.K fd ps []) (hx : PassesAt CX X σ (E σ)) (I : Inv X pins σ H s) (r : Vals vs us)
    (h : ∀ x dx, H x = none → H dx = none → dx ≠ x → sp (.ref x :: vs) (L2.upd (L2.upd H dx (.own x)) x (.ins C dx [])) (fun v H2 => v = .non ∧ Q (.ref x) H2) (E σ)) : wpAny (model X.prog X.w) X.A (call (.ref C) us) (EP X pins σ Q) X.xe s := by
  let b : Addr := s.heap.objs.size
  have q0 := h (b + 1) b (I.hok.fresh (Nat.le_succ _)) (I.hok.fresh (Nat.le_refl _)) (Nat.ne_of_lt (Nat.lt_succ_self _))
  have J := Inv.made (C := C) I
  have rr : Vals (V.ref (b + 1) :: vs) (Value.ref (b + 1) :: us) := .cons rfl r
  have hl : ((Value.ref (b + 1) :: us) ++ []).length = ps.length := by
    rw [List.append_nil, ← rr.length]
    exact F.len _ _ _ _ q0
  have B := hb _ (Value.ref (b + 1) :: us) J.kIn hl
  rw [List.append_nil] at B
  have run := F.run _ X.stack _ _ ⟨Value.ref (b + 1) :: us, []⟩ (Value.ref (b + 1) :: us) _ _ (E σ) (hr.make C us []) (J.env0.make C us []) B rr q0
  refine wpAny_call (make_map (f := f) I.kIn M.makes M.init (beq_iff_eq.mp M.fn) (codeAny_mono run fun res s' hq => ?_))
  match res, hq with
  | .error er, hq => exact hx pins _ _ er s' J hq
  | .ok (.ret u), hq =>
    obtain ⟨v, H', I3, rv, ev, q3⟩ := J.after hq
    subst ev
    exact ⟨rv, ⟨V.ref (b + 1), H', I3, rfl, q3⟩⟩
theorem pe_mkS {CX : CXT} {C f : Addr} {sp : Sp} {E : L2.St → XK} {t : TA} (M : Mk X.K C f) (F : FnOk X.prog X.w X.K X.mg X.base CX k f fd ps sp) (hr : Room (k + 1) X.A) (hg : Gl X x) (hm : X.mg x = some (.ref C)) (hb : Binds X.K fd ps []) (hx : ∀ σ, PassesAt CX X σ (E σ)) (ha : PA X (e :: es) t)
    (hdb : (x == ("__debug__" : Str)) = false := by decide) (he : starEach (e :: es) X.env = (false, eval e X.env) :: starEach es X.env := by rfl) (hpl : (backTo pos (starEach es X.env)).any (·.1) = false := by rfl) :
    PE X (.Call (.Name x p) (e :: es) [] pos) (tMkS C sp E t) := ⟨fun pins s σ H Q I h => by
  refine wpAny_Call_Name_kw (ld_glob I hg hm ?_ hdb)
  exact PySem.W.callWith_K (h₀ := X.base) I.ok.mod.kin M.kp (thn (ha.run pos pins s σ H _ I h) fun us s1 ⟨vs, H1, I1, r, q⟩ => ⟨I1.kIn, run_mkS M F hr hb (hx σ) I1 r q⟩) he hpl⟩
/-- a def (a method) at an address: its promise -/
structure Mok (P : Program) (w : World) (K : PySem.W.Frag) (mg : Str → Option Value) (base : Heap) (f : Addr) (k : Nat) (ps : List Str) (ff : FF) : Prop where
  ex : ∃ fd, FnOk P w K mg base (L2.CX P w) k f fd ps (spD K ps.length ff) ∧ Binds K fd ps []
theorem de_make (M : Mk X.K (He.ga X.K c) (He.ma X.K (He.ga X.K c) "__init__")) (h : Mok X.prog X.w X.K X.mg X.base (He.ma X.K (He.ga X.K c) "__init__") k ps ff) (hr : Room (k + 1) X.A) (tk : Takes X W.wx) (hm : X.mg c = some (.ref (He.ga X.K c))) (ha : DA X W O (e :: es) fa)
    {n : Nat} (hlen : ∀ ρ S ds S1, fa ρ S = .ok ds S1 → ds.length = n) (hn : ps.length = n + 1 := by rfl) (hg : Gl X c := by rfl)
    (hdb : (c == ("__debug__" : Str)) = false := by decide) (he : starEach (e :: es) X.env = (false, eval e X.env) :: starEach es X.env := by rfl) (hpl : (backTo pos (starEach es X.env)).any (·.1) = false := by rfl) :
    DE .e X W O (.Call (.Name c p) (e :: es) [] pos) (eMake c ff fa) := by
  obtain ⟨fd, F, hb⟩ := h.ex
  rw [hn] at F
  exact ⟨(pe_mkS M F hr hg hm hb (fun σ => L2.passAt tk σ) ha.pa hdb he hpl).imp (make_of hlen)⟩
/-! ### methods -/
/-! ### a property -/
end
end DL

set_option maxHeartbeats 1000000
/-! the hook with defs at any address (getters of properties); methods' promises -/
namespace DL
open PySem PySem.Spec PyProof.Rows L2
section
variable (fa : List He.Fa) (fn : List He.DefD) (ts : List He.Tab) (bs : List (PySem.W.Frag → Bool)) (fp : List He5.DefA)
end
section
variable {fa : List He.Fa} {fn : List He.DefD} {ts : List He.Tab} {bs : List (PySem.W.Frag → Bool)} {fp : List He5.DefA} {w : World} {K : PySem.W.Frag}
end
/-! ### properties -/
end DL

set_option maxHeartbeats 1000000
/-! comprehensions that walk over an own list -/
namespace DL
open PySem PySem.Spec PyProof.Rows L2
def ItOkE (K : PySem.W.Frag) (w : Wit) (H : Hp) (J : It) (ds : List D) : Prop := ∀ w' H' S' i, Ext w H w' H' → Gd K w' H' S' →
  (∀ d, ds[i]? = some d → J.go i H' ∧ ∀ x H2, J.yld i H' x H2 → ∃ w2, Ext w' H' w2 H2 ∧ Gd K w2 H2 S' ∧ Rep K w2 d x) ∧ (i = ds.length → J.stop i H')
theorem ItOk.e {K : PySem.W.Frag} {w : Wit} {H : Hp} {J : It} {ds : List D} (h : ItOk K w J ds) : ItOkE K w H J ds := fun w' H' S' i x g => h w' H' S' i x.le g
def PostIe (K : PySem.W.Frag) (w : Wit) (H : Hp) (W : WZ) (σ : L2.St) (r : Ress) (Q : It → Hp → Prop) : Prop := match r with
  | .ok ds S => ∀ J H' w', Ext w H w' H' → Gd K w' H' S → ItOkE K w' H' J ds → ds.length ≤ sizeLine → Q J H'
  | .exn x S => ∀ cls dx H' w', Ext w H w' H' → Gd K w' H' S → RepX K w' H' x cls dx → W.wx cls dx σ H'
  | .stuck => False
def rdIe (K : PySem.W.Frag) (W : WZ) (O : List Nat) (f : IF) : TI := fun σ H Q => ∃ (ent : Ent W.xc) (w : Wit) (ρ : DEnv) (S : Sto), R K ent O w H σ ρ S ∧ PostIe K w H W σ (f ρ S) Q
structure DIe (X : Cx) (W : WZ) (O : List Nat) (tg it : Expr) (f : IF) : Prop where
  pi : PI X tg it (rdIe X.K W O f)
theorem itokE_own {K : PySem.W.Frag} {w : Wit} {H : Hp} {a : Addr} {ds : List D} (h : Own K w H (.lst ds) a) : ItOkE K w H (Itl K a) ds := fun w' H' S' i x g => by
  obtain ⟨_, _, vs, hH, r⟩ := h.ext x
  have hq : SqL K H' a vs := SqL.of hH
  refine ⟨fun d e => ?_, fun hl => ⟨vs, hq, by rw [← r.length]; exact Nat.le_of_eq hl.symm⟩⟩
  obtain ⟨v, ev, rv⟩ := r.get e
  refine ⟨⟨vs, v, hq, ev⟩, fun x H2 y => ?_⟩
  obtain ⟨rfl, y⟩ := y
  have := y vs hq
  rw [ev] at this; cases this
  exact ⟨w', .refl _ _, g, rv⟩
def iSeqB (f : EF) : IF := fun ρ S => match f ρ S with
  | .ok d S1 => (match d with
    | .lst ds => .ok ds S1
    | _ => .stuck)
  | .exn x S1 => .exn x S1
  | .stuck => .stuck
theorem die_own {X : Cx} {W : WZ} {O : List Nat} {tg e : Expr} {f : EF} (he : DE .b X W O e f) : DIe X W O tg e (iSeqB f) := by
  refine ⟨(pi_list he.pe.sz).imp ?_⟩
  rintro σ H Q ⟨ent, w, ρ, S, r, p⟩
  refine ⟨ent, w, ρ, S, r, ?_⟩
  unfold iSeqB at p
  cases e1 : f ρ S with
  | stuck => rw [e1] at p; exact p.elim
  | exn x S1 => rw [e1] at p; exact p
  | ok d S1 =>
    rw [e1] at p
    cases d with
    | lst ds =>
      intro v H1 w1 x1 g1 z hz
      rcases z with z | ⟨a, rfl, z⟩
      · cases z with
        | @lst a vs ds h rr =>
          have hh := SqL.monoF g1.sub h
          exact ⟨a, rfl, ⟨vs, hh⟩, p _ H1 w1 x1 g1 (itok_list h rr).e (by rw [rr.length]; exact hz a vs (.inl hh))⟩
      · obtain ⟨_, _, vs, hH, rr⟩ := id z
        have hh : SqL X.K H1 a vs := SqL.of hH
        exact ⟨a, rfl, ⟨vs, hh⟩, p _ H1 w1 x1 g1 (itokE_own z) (by rw [rr.length]; exact hz a vs (.inl hh))⟩
    | _ => exact p.elim
theorem lc_ofE {K : PySem.W.Frag} {W : WZ} {O vs : List Nat} {fi : IF} {g : GF} {t : TG} {fc fe : EF} (hgo : GOk K O g t) (ho : TOwn t vs) (hO : ∀ i, i ∈ vs → i ∉ O) :
    ∀ σ H Q, rd K .f W O (eLc vs fi g fc fe) σ H Q → tLc (rdIe K W O fi) t (rdT K W.no O fc) (rd K .e W.no O fe) vs σ H Q := by
  rintro σ H Q ⟨ent, w, ρ, S, r, p⟩
  refine ⟨ent, w, ρ, S, r, ?_⟩
  unfold eLc at p
  cases e1 : fi ρ S with
  | stuck => rw [e1] at p; exact p
  | exn x S1 => rw [e1] at p; exact p
  | ok ds S1 =>
    rw [e1] at p
    intro J H1 w1 x1 g1 hJ hz L hL
    have r1 := (r.later x1 g1).wipe vs hO
    -- the invariant: the list so far stands at L
    refine ⟨fun i m H => m = ds.length - i ∧ i ≤ ds.length ∧ ∃ w2 acc S2, Ext w1 H1 w2 H ∧ Gd K w2 H S2 ∧ Own K w2 H (.lst acc) L ∧ acc.length ≤ i ∧ Post K .f w1 H1 W σ (lcD g fc fe (ds.drop i) acc (wipeD ρ vs) S2) Q, ⟨ds.length, by simp, Nat.zero_le _, w1, [], S1, Ext.newO w1 hL, g1.newO hL, ⟨g1.noneF hL, g1.nophi hL, [], upd_same, .nil⟩, Nat.le_refl _, by simpa using Post.later (r := lcD g fc fe ds [] (wipeD ρ vs) S1) x1 p⟩, ?_⟩
    rintro i m H2 ⟨rfl, hi, w2, acc, S2, x2, g2, o2, hl2, p2⟩
    obtain ⟨j1, j2⟩ := hJ w2 H2 S2 i x2 g2
    by_cases hlt : i < ds.length
    · obtain ⟨jg, jy⟩ := j1 ds[i] (List.getElem?_eq_getElem hlt)
      refine .inr ⟨jg, fun H' => ∃ w' acc' S', Ext w1 H1 w' H' ∧ Gd K w' H' S' ∧ Own K w' H' (.lst acc') L ∧ acc'.length ≤ i + 1 ∧ Post K .f w1 H1 W σ (lcD g fc fe (ds.drop (i + 1)) acc' (wipeD ρ vs) S') Q,
        fun H' ⟨w', acc', S', q1, q2, q3, q4, q5⟩ => ⟨ds.length - (i + 1), by omega, rfl, hlt, w', acc', S', q1, q2, q3, q4, q5⟩, fun x H3 y => ?_⟩
      obtain ⟨w3, x3, g3, z3⟩ := jy x H3 y
      rw [List.drop_eq_getElem_cons hlt] at p2
      unfold lcD at p2
      have r3 : R K ent O w3 H3 (L2.wipe σ vs) (wipeD ρ vs) S2 := r1.later (x2.trans x3) g3
      cases e2 : g ds[i] (wipeD ρ vs) with
      | none => rw [e2] at p2; exact p2.elim
      | some ρ3 =>
        rw [e2] at p2
        dsimp only at p2
        refine ho.wiped (hgo.ok r3 z3 e2 fun σ3 s3' r3' => ?_)
        refine ⟨ent, w3, ρ3, S2, r3', ?_⟩
        have o3 : Own K w3 H3 (.lst acc) L := o2.ext x3
        cases e3 : fc ρ3 S2 with
        | stuck => rw [e3] at p2; exact p2.elim
        | exn y S3 => rw [e3] at p2; exact p2.elim
        | ok c S3 =>
          rw [e3] at p2
          cases c with
          | bl b =>
            refine ⟨b, rfl, fun H4 w4 x4 g4 => ?_⟩
            cases b with
            | false =>
              rw [if_neg Bool.false_ne_true]
              exact ⟨w4, acc, S3, x2.trans (x3.trans x4), g4, o3.ext x4, Nat.le_succ_of_le hl2, p2⟩
            | true =>
              rw [if_pos rfl]
              dsimp only at p2
              refine ⟨ent, w4, ρ3, S3, r3'.later x4 g4, ?_⟩
              cases e4 : fe ρ3 S3 with
              | stuck => rw [e4] at p2; exact p2.elim
              | exn y S4 => rw [e4] at p2; exact p2.elim
              | ok d S4 =>
                rw [e4] at p2
                intro v H5 w5 x5 g5 z5
                have o5 : Own K w5 H5 (.lst acc) L := (o3.ext x4).ext x5
                obtain ⟨f1, f2, us, f3, f4⟩ := o5
                refine ⟨us, f3, ?_, w5, acc ++ [d], S4, (x2.trans (x3.trans (x4.trans x5))).updO hL, g5.updO f1 f2 (pd_lst f3), ⟨f1, f2, _, upd_same, f4.append (.cons z5 .nil)⟩, by simp; omega, p2⟩
                rw [← f4.length]; omega
          | _ => exact p2.elim
    · have ei : i = ds.length := by omega
      subst ei
      refine .inl ⟨j2 rfl, ?_⟩
      rw [List.drop_length] at p2
      exact p2 _ H2 w2 x2 g2 ⟨L, rfl, hL, o2⟩
section
variable {X : Cx} {W : WZ} {O : List Nat} {elt tg iter : Expr} {ifs : List Expr} {scope : Scope} {own : List (Str × Nat)} {pos : Pos} {fi : IF} {g : GF} {t : TG} {fc fe : EF}
theorem de_lcE (hN : X.N.Nodup) (ok : BlkOk X.N X.env.scope scope own) (hi : DIe X W O tg iter fi)
    (hgo : GOk X.K O g t) (hg : ∀ (s : Shared) (H : Hp) (C : Addr) (cl : List (Str × Addr)) (fp : List Addr), PG (X.blk s H scope (compEnvC scope cl C X.env) fp) tg t) (ho : TOwn t (own.map (·.2)))
    (ht : ∀ (s : Shared) (H : Hp) (C : Addr) (cl : List (Str × Addr)) (fp : List Addr), DCs (X.blk s H scope (compEnvC scope cl C X.env) fp) W O ifs fc)
    (he : ∀ (s : Shared) (H : Hp) (C : Addr) (cl : List (Str × Addr)) (fp : List Addr), DE .e (X.blk s H scope (compEnvC scope cl C X.env) fp) W.no O elt fe)
    (hO : ∀ i, i ∈ own.map (·.2) → i ∉ O := by decide) (hc : X.calm = true := by rfl) (hs : ∀ x, foldedSetIterable iter X.env x = pure x := by intro _; rfl) :
    DE .f X W O (.ListComp elt [⟨tg, iter, ifs, 0⟩] scope pos) (eLc (own.map (·.2)) fi g fc fe) :=
  ⟨(pe_lc (pos := pos) (tt := rdT X.K W.no O fc) (te := rd X.K .e W.no O fe) hc hN hi.pi ok hg (fun s H C cl fp => (ht s H C cl fp).pts) (fun s H C cl fp => (he s H C cl fp).pe) hs).imp (lc_ofE hgo ho hO)⟩
end
section
variable {X : Cx} {W : WZ} {O : List Nat} {elt tg iter : Expr} {ifs : List Expr} {scope : Scope} {own : List (Str × Nat)} {pos : Pos} {fi : IF} {g : GF} {t : TG} {fc fe : EF}
end
end DL

set_option maxHeartbeats 1000000
/-! module tuples of plain constants -/
namespace DL
open PySem PySem.Spec PyProof.Rows L2
def relsB : List V → List Value → Bool
  | [], [] => true
  | v :: vs, u :: us => He.relB v u && relsB vs us
  | _, _ => false
theorem relsB_ok : ∀ {vs : List V} {us : List Value}, relsB vs us = true → Vals vs us
  | [], [], _ => .nil
  | v :: vs, u :: us, h => by
    obtain ⟨h1, h2⟩ := Bool.and_eq_true_iff.mp h
    exact .cons (He.relB_ok h1) (relsB_ok h2)
def ctB (K : PySem.W.Frag) (a : Addr) (ts : List He.Dv) : Bool := match K.lookup a with
  | some ⟨.type t, _, .seq its _, _⟩ => decide (t = "tuple") && (Nat.ble its.size sizeLine && relsB (ts.map (·.v K)) its.toList)
  | _ => false
theorem ctB_ok {K : PySem.W.Frag} {a : Addr} {ts : List He.Dv} (h : ctB K a ts = true) : SqT K (fun _ => none) a (ts.map (·.v K)) := by
  unfold ctB at h
  cases e : K.lookup a with
  | none => rw [e] at h; cases h
  | some o =>
    rw [e] at h
    obtain ⟨oc, od, dt, sl⟩ := o
    cases oc with
    | type t =>
      cases dt with
      | seq its n =>
        dsimp only at h
        obtain ⟨h1, h⟩ := Bool.and_eq_true_iff.mp h
        obtain ⟨h2, h3⟩ := Bool.and_eq_true_iff.mp h
        have e1 : t = "tuple" := of_decide_eq_true h1
        subst e1
        exact .inr ⟨_, its, n, e, rfl, rfl, Nat.le_of_ble_eq_true h2, relsB_ok h3⟩
      | _ => cases h
    | _ => cases dt <;> cases h
theorem dvs_rep {K : PySem.W.Frag} {w : Wit} : ∀ {ts : List He.Dv} {ds : List D}, ts.map dvD = ds.map some → Reps K w ds (ts.map (·.v K))
  | [], [], _ => .nil
  | [], _ :: _, h => by cases h
  | _ :: _, [], h => by cases h
  | t :: ts, d :: ds, h => by
    simp only [List.map_cons, List.cons.injEq] at h
    exact .cons (dvD_rep h.1) (dvs_rep h.2)
theorem de_gtup {X : Cx} {W : WZ} {O : List Nat} {x : Str} {pos : Pos} {ts : List He.Dv} {ds : List D} (hm : X.mg x = some (.ref (He.ga X.K x))) (hc : ctB X.K (He.ga X.K x) ts = true) (ht : ts.map dvD = ds.map some := by rfl) (hg : Gl X x := by rfl) (hd : (x == ("__debug__" : Str)) = false := by decide) :
    DE .e X W O (.Name x pos) (eC (.ctp ds)) := de_glob (v := .ref (He.ga X.K x)) hm rfl (fun _ => .ctp (ctB_ok hc) (dvs_rep ht)) hg hd
end DL

set_option maxHeartbeats 1000000
/-! name = [.. for .. for ..] on one line; isinstance of an own class -/
namespace DL
open PySem PySem.Spec PyProof.Rows L2
section
variable {X : Cx} {W : WZ} {O : List Nat} {elt tg iter tg1 iter1 : Expr} {ifs ifs1 : List Expr} {scope : Scope} {own : List (Str × Nat)} {vs1 : List Nat} {pos : Pos} {fi fi1 : IF} {g g1 : GF} {t t1 : TG} {fc fc1 fe : EF}
theorem ds_lc2Own (i : Nat) {L : Lp} {y : Str} {py spos : Pos} (hN : X.N.Nodup) (ok : BlkOk X.N X.env.scope scope own) (hv : ∀ i, i ∈ vs1 → i ∈ own.map (·.2)) (hi : DI X W O tg iter fi)
    (hgo : GOk X.K O g t) (hg : ∀ (s : Shared) (H : Hp) (C : Addr) (cl : List (Str × Addr)) (fp : List Addr), PG (X.blk s H scope (compEnvC scope cl C X.env) fp) tg t) (ho : TOwn t (own.map (·.2)))
    (ht : ∀ (s : Shared) (H : Hp) (C : Addr) (cl : List (Str × Addr)) (fp : List Addr), DCs (X.blk s H scope (compEnvC scope cl C X.env) fp) W O ifs fc)
    (hi1 : ∀ (s : Shared) (H : Hp) (C : Addr) (cl : List (Str × Addr)) (fp : List Addr), DI (X.blk s H scope (compEnvC scope cl C X.env) fp) W.no O tg1 iter1 fi1)
    (hgo1 : GOk X.K O g1 t1) (hg1 : ∀ (s : Shared) (H : Hp) (C : Addr) (cl : List (Str × Addr)) (fp : List Addr), PG (X.blk s H scope (compEnvC scope cl C X.env) fp) tg1 t1) (ho1 : TOwn t1 vs1)
    (ht1 : ∀ (s : Shared) (H : Hp) (C : Addr) (cl : List (Str × Addr)) (fp : List Addr), DCs (X.blk s H scope (compEnvC scope cl C X.env) fp) W O ifs1 fc1)
    (he : ∀ (s : Shared) (H : Hp) (C : Addr) (cl : List (Str × Addr)) (fp : List Addr), DE .e (X.blk s H scope (compEnvC scope cl C X.env) fp) W.no O elt fe)
    (hsw : swapsWith (.ListComp elt [⟨tg, iter, ifs, 0⟩, ⟨tg1, iter1, ifs1, 0⟩] scope pos) (some (.Name y py)) spos.line X.env = pure true) (hyl : X.env.scope.names.lookup y = some .local := by rfl) (hiO : i ∉ O := by decide) (hy : X.N[i]? = some y := by rfl)
    (hO : ∀ i, i ∈ own.map (·.2) → i ∉ O := by decide) (hO1 : ∀ i, i ∈ vs1 → i ∉ O := by decide) (hc : X.calm = true := by rfl) (hs : ∀ x, foldedSetIterable iter X.env x = pure x := by intro _; rfl) (hs1 : ∀ env x, foldedSetIterable iter1 env x = pure x := by intro _ _; rfl) :
    DS X W L O (.Assign [.Name y py] (.ListComp elt [⟨tg, iter, ifs, 0⟩, ⟨tg1, iter1, ifs1, 0⟩] scope pos) spos) (i :: O) (sSet i (eLc2 (own.map (·.2)) vs1 fi g fc fi1 g1 fc1 fe)) :=
  ⟨(ps_setLc2 (tt := rdT X.K W.no O fc) (tt1 := rdT X.K W.no O fc1) (te := rd X.K .e W.no O fe) (wi1 := rdI X.K W.no O fi1) hc hN hy hyl hsw hi.pi ok hv hg (fun s H C cl fp => (ht s H C cl fp).pts) (fun s H C cl fp => (hi1 s H C cl fp).pi) hg1 (fun s H C cl fp => (ht1 s H C cl fp).pts) (fun s H C cl fp => (he s H C cl fp).pe) hs hs1).imp fun En σ H h => lc2_of hgo ho hgo1 ho1 hO hO1 σ H _ (setOwn_of hiO En σ H h)⟩
theorem ds_lc2Set (i : Nat) {L : Lp} {y : Str} {py spos : Pos} (hN : X.N.Nodup) (ok : BlkOk X.N X.env.scope scope own) (hv : ∀ i, i ∈ vs1 → i ∈ own.map (·.2)) (hi : DI X W O tg iter fi)
    (hgo : GOk X.K O g t) (hg : ∀ (s : Shared) (H : Hp) (C : Addr) (cl : List (Str × Addr)) (fp : List Addr), PG (X.blk s H scope (compEnvC scope cl C X.env) fp) tg t) (ho : TOwn t (own.map (·.2)))
    (ht : ∀ (s : Shared) (H : Hp) (C : Addr) (cl : List (Str × Addr)) (fp : List Addr), DCs (X.blk s H scope (compEnvC scope cl C X.env) fp) W O ifs fc)
    (hi1 : ∀ (s : Shared) (H : Hp) (C : Addr) (cl : List (Str × Addr)) (fp : List Addr), DI (X.blk s H scope (compEnvC scope cl C X.env) fp) W.no O tg1 iter1 fi1)
    (hgo1 : GOk X.K O g1 t1) (hg1 : ∀ (s : Shared) (H : Hp) (C : Addr) (cl : List (Str × Addr)) (fp : List Addr), PG (X.blk s H scope (compEnvC scope cl C X.env) fp) tg1 t1) (ho1 : TOwn t1 vs1)
    (ht1 : ∀ (s : Shared) (H : Hp) (C : Addr) (cl : List (Str × Addr)) (fp : List Addr), DCs (X.blk s H scope (compEnvC scope cl C X.env) fp) W O ifs1 fc1)
    (he : ∀ (s : Shared) (H : Hp) (C : Addr) (cl : List (Str × Addr)) (fp : List Addr), DE .e (X.blk s H scope (compEnvC scope cl C X.env) fp) W.no O elt fe)
    (hsw : swapsWith (.ListComp elt [⟨tg, iter, ifs, 0⟩, ⟨tg1, iter1, ifs1, 0⟩] scope pos) (some (.Name y py)) spos.line X.env = pure true) (hyl : X.env.scope.names.lookup y = some .local := by rfl) (hiO : i ∉ O := by decide) (hy : X.N[i]? = some y := by rfl)
    (hO : ∀ i, i ∈ own.map (·.2) → i ∉ O := by decide) (hO1 : ∀ i, i ∈ vs1 → i ∉ O := by decide) (hc : X.calm = true := by rfl) (hs : ∀ x, foldedSetIterable iter X.env x = pure x := by intro _; rfl) (hs1 : ∀ env x, foldedSetIterable iter1 env x = pure x := by intro _ _; rfl) :
    DS X W L O (.Assign [.Name y py] (.ListComp elt [⟨tg, iter, ifs, 0⟩, ⟨tg1, iter1, ifs1, 0⟩] scope pos) spos) O (sSet i (eLc2 (own.map (·.2)) vs1 fi g fc fi1 g1 fc1 fe)) :=
  ⟨(ps_setLc2 (tt := rdT X.K W.no O fc) (tt1 := rdT X.K W.no O fc1) (te := rd X.K .e W.no O fe) (wi1 := rdI X.K W.no O fi1) hc hN hy hyl hsw hi.pi ok hv hg (fun s H C cl fp => (ht s H C cl fp).pts) (fun s H C cl fp => (hi1 s H C cl fp).pi) hg1 (fun s H C cl fp => (ht1 s H C cl fp).pts) (fun s H C cl fp => (he s H C cl fp).pe) hs hs1).imp fun En σ H h => lc2_of hgo ho hgo1 ho1 hO hO1 σ H _ (setF_of hiO En σ H h)⟩
end
/-- isinstance(.., c) of an own class c, asked of base types and of the classes in al -/
def isOwnB (K : PySem.W.Frag) (c : Str) : Bool := baseTys.all fun t => decide (PySem.W.kitAny K (.type t) [.ref (He.ga K c)] = some false)
def clsIB (K : PySem.W.Frag) (c : Str) : Bool := (He.Fa.cls c).ok K && (He.eqO (PySem.W.findIn K (.ref (He.ga K c)) "__class__") (some (some (.builtin "object.__class__"))) && (He.eqO (PySem.W.specialIn K (.builtin "object.__class__") "__get__") (some (some (.builtin "getset_descriptor.__get__"))) && (decide (PySem.W.takesIn K (.builtin "object.__class__") = some true) && decide (PySem.W.mroIn K (He.ga K c) (.type "object") = some true))))
theorem clsIB_ok {K : PySem.W.Frag} {c : Str} (h : clsIB K c = true) : ClsI K c := by
  unfold clsIB at h
  obtain ⟨h1, h⟩ := Bool.and_eq_true_iff.mp h
  obtain ⟨h2, h⟩ := Bool.and_eq_true_iff.mp h
  obtain ⟨h3, h⟩ := Bool.and_eq_true_iff.mp h
  obtain ⟨h4, h5⟩ := Bool.and_eq_true_iff.mp h
  exact ⟨He.cls_ok h1, He.eqO_ok h2, He.eqO_ok h3, of_decide_eq_true h4, of_decide_eq_true h5⟩
def kitB (K : PySem.W.Frag) (z c : Str) (b : Bool) : Bool := decide (PySem.W.kitAny K (.ref (He.ga K z)) [.ref (He.ga K c)] = some b)
theorem isK_own {K : PySem.W.Frag} {c : Str} {to : Str → Option Bool} (h : isOwnB K c = true) (h2 : ∀ z b, to z = some b → ClsI K z ∧ PySem.W.kitAny K (.ref (He.ga K z)) [.ref (He.ga K c)] = some b) : IsK K [.ref (He.ga K c)] (fun _ => false) to :=
  ⟨fun t ht => of_decide_eq_true (List.all_eq_true.mp h t ht), h2⟩
end DL

set_option maxHeartbeats 4000000
/-! t[::-1] of tuples -/
namespace HT
open PySem PySem.Spec PyProof.Rows
section
variable {prog : Program} {w : World} {A : Around} {E : Value → Shared → Prop} {s : Shared}
theorem adjust_rev (n : Nat) : Builtin.Slice.sliceAdjust none none (-1) (n : Int) = ((n : Int) - 1, -1) := by
  unfold Builtin.Slice.sliceAdjust
  simp
theorem places_rev (n : Nat) : Builtin.Slice.slicePlaces ((n : Int) - 1) (-1) (-1) = n := by
  unfold Builtin.Slice.slicePlaces
  have h1 : ¬ ((-1 : Int) > 0) := by omega
  have h2 : (- -1 : Int) = 1 := by decide
  simp only [h1, if_false, h2, Int.ediv_one]
  split <;> omega
theorem sliceApplied_rev {sl : Addr} {vs : Value} {n : Nat} {Q : Int × Int × Nat → Shared → Prop} (hs : s.heap.IsSliceOf sl .none .none vs) (ps : IsPart vs (some (-1)))
    (h : Q ((n : Int) - 1, -1, n) s) : wpAny (model prog w) A (Builtin.Slice.sliceApplied (.ref sl) (pure (n : Int))) Q E s := by
  obtain ⟨os, hos, hcs, hds⟩ := id hs
  unfold Builtin.Slice.sliceApplied Builtin.Slice.sliceFields
  refine wpAny_bind (wpAny_bind (wpAny_field hos hds (x := .none) rfl (wpAny_bind (wpAny_field hos hds (x := .none) rfl (wpAny_bind (wpAny_field hos hds (x := vs) rfl (wpAny_pure ?_)))))))
  refine wpAny_bind (slicePart_ ps ?_)
  show wpAny _ _ (if ((-1 : Int) == 0) = true then _ else _) _ _ s
  rw [if_neg (by decide)]
  refine wpAny_bind (slicePart_none (wpAny_bind (slicePart_none (wpAny_bind (wpAny_pure ?_)))))
  show wpAny _ _ (match Builtin.Slice.sliceAdjust none none (-1) (n : Int) with | (lo, hi) => pure (lo, (-1 : Int), Builtin.Slice.slicePlaces lo hi (-1))) _ _ s
  rw [adjust_rev n]
  show wpAny _ _ (pure ((n : Int) - 1, (-1 : Int), Builtin.Slice.slicePlaces ((n : Int) - 1) (-1) (-1))) _ _ s
  rw [places_rev]
  exact wpAny_pure h
theorem fm_congr {α β : Type} {f g : α → Option β} : ∀ {l : List α}, (∀ a ∈ l, f a = g a) → l.filterMap f = l.filterMap g
  | [], _ => rfl
  | a :: l, h => by
    rw [List.filterMap_cons, List.filterMap_cons, h a List.mem_cons_self, fm_congr fun b hb => h b (List.mem_cons_of_mem _ hb)]
theorem pick_rev (xs : Array Value) : ((List.range xs.size).filterMap fun (m : Nat) => xs[((xs.size : Int) - 1 + (m : Int) * (-1)).toNat]?).toArray = xs.toList.reverse.toArray := by
  have e : (List.range xs.size).filterMap (fun (m : Nat) => xs[((xs.size : Int) - 1 + (m : Int) * (-1)).toNat]?) = ((List.range xs.size).map fun k => xs.size - 1 - k).filterMap (fun m => xs[m]?) := by
    rw [List.filterMap_map]
    refine fm_congr fun m hm => ?_
    have hm' := List.mem_range.mp hm
    show xs[((xs.size : Int) - 1 + (m : Int) * (-1)).toNat]? = xs[xs.size - 1 - m]?
    have : ((xs.size : Int) - 1 + (m : Int) * (-1)).toNat = xs.size - 1 - m := by omega
    rw [this]
  rw [e, PySem.W.krv_range, List.filterMap_reverse]
  have := PySem.W.krv_all xs
  rw [this]
theorem getItem_tuple_rev {t sl : Addr} {items : Array Value} {vs : Value} {Q : Value → Shared → Prop} (ht : IsTup s.heap t items) (hs : s.heap.IsSliceOf sl .none .none vs) (ps : IsPart vs (some (-1)))
    (h : Q (.ref s.heap.objs.size) { s with heap := s.heap.push { cls := .type "tuple", data := .seq items.toList.reverse.toArray } })
    (hsz : items.size ≤ sizeLine) : wpAny (model prog w) A (getItem (.ref t) (.ref sl)) Q E s := by
  have htake : sizeOk (.seq items.toList.reverse.toArray) := by
    show items.toList.reverse.toArray.size ≤ sizeLine
    rw [List.size_toArray, List.length_reverse, Array.length_toList]
    exact hsz
  obtain ⟨os, hos, hcs, hds⟩ := id hs
  have hTs : s.TypeIs (.ref sl) "slice" := ⟨os, hos, hcs⟩
  unfold getItem
  try with_reducible refine wpAny_holding ?_
  first | refine wpAny_bind (wpAny_pure ?_) | skip
  refine wpAny_bind (wpAny_sequenceKey ht.typeIs (by decide) ?_)
  refine wpAny_bind (wpAny_callSpecial?_slot (name := Str.ofString "__getitem__") ht.typeIs PyProof.Rows.slot_tuple_getitem
    (wpAny_call_entry PyProof.Rows.slot_tuple_getitem ht.typeIs entry_tuple_getitem ?_ (args_tuple_getitem _ _)))
  show wpAny _ _ (Builtin.Tuple.tupleItemsOf (.ref t) >>= _) _ _ s
  refine wpAny_bind (tupleItemsOf_ ht ?_)
  refine wpAny_bind (wpAny_typeOf hTs ?_)
  rw [if_pos (by decide)]
  refine wpAny_bind (sliceApplied_rev hs ps ?_)
  have hno : ¬ ((((items.size : Int) - 1) == 0 && (-1 : Int) == 1 && items.size == items.size) = true) := by
    intro q
    rw [Bool.and_eq_true, Bool.and_eq_true] at q
    have q1 : (-1 : Int) = 1 := eq_of_beq q.1.2
    omega
  show wpAny _ _ (if (((items.size : Int) - 1) == 0 && (-1 : Int) == 1 && items.size == items.size) = true then _ else _) _ _ s
  rw [if_neg hno, pick_rev]
  first
    | exact wpAny_bind (m := Builtin.Tuple.tupleExact _) (wpAny_newObj_type (wpAny_pure ⟨_, rfl, wpAny_pure h⟩) htake)
    | exact wpAny_bind (m := Builtin.Tuple.tupleExact _) (wpAny_newObj_type (wpAny_bind (wpAny_pure (wpAny_pure ⟨_, rfl, wpAny_pure h⟩))) htake)
    | exact wpAny_bind (wpAny_bind (m := Builtin.Tuple.tupleExact _) (wpAny_newObj_type (wpAny_pure (wpAny_pure ⟨_, rfl, wpAny_pure h⟩)) htake))
    | exact wpAny_bind (wpAny_bind (m := Builtin.Tuple.tupleExact _) (wpAny_newObj_type (wpAny_pure ⟨_, rfl, wpAny_pure h⟩) htake))
end
end HT
namespace L2
open PySem PySem.Spec PyProof.Rows
def tRevA (K : PySem.W.Frag) (te : TE) : TE := fun σ H Q => te σ H fun x H1 => ∃ a xs, x = .ref a ∧
  ((SqL K H1 a xs ∧ ∀ p, H1 p = none → Q (.ref p) (upd H1 p (.lst xs.reverse))) ∨ (SqT K H1 a xs ∧ ∀ p, H1 p = none → Q (.ref p) (upd H1 p (.tup xs.reverse))))
section
variable {X : Cx}
theorem pe_revA {e : Expr} {te : TE} {k : Nat} {p1 p2 p3 pos : Pos} (he : PE X e te) : PE X (.Subscript e (.Slice none none (some (.UnaryOp .USub (.Constant (.int 1) k p1) p2)) p3) pos) (tRevA X.K te) := by
  refine ⟨fun pins s σ H Q I h => ?_⟩
  refine Subscript_ (thn (he.run pins s σ H _ I h) fun v s1 ⟨x, H1, I1, r1, q1⟩ => ?_)
  obtain ⟨a, xs, ex, q⟩ := q1
  subst ex
  cases r1
  have hst : PO X (some (.UnaryOp .USub (.Constant (.int 1) k p1) p2)) (tPart (tUn (rU fun i => .int (-i)) (tC (.int 1)))) := po_some (pe_un un_neg pe_int)
  refine wpAny_Slice (thn (po_none.run pins s1 σ H1 (fun o H2 => o = none ∧ H2 = H1) I1 ⟨rfl, rfl⟩) fun vl s2 ⟨l, H2, I2, pl, el, e2⟩ => ?_)
  subst el e2
  refine thn (po_none.run pins s2 σ H2 (fun o H3 => o = none ∧ H3 = H2) I2 ⟨rfl, rfl⟩) fun vu s3 ⟨u, H3, I3, pu, eu, e3⟩ => ?_
  subst eu e3
  refine thn (hst.run pins s3 σ H3 (fun o H4 => o = some (-1) ∧ H4 = H3) I3 ⟨1, rfl, -1, rfl, rfl, rfl⟩) fun vs s4 ⟨o, H4, I4, ps, eo, e4⟩ => ?_
  subst eo e4
  have I5 : Inv X pins σ H4 { s4 with heap := s4.heap.push { cls := .type "slice", data := .fields #[vl, vu, vs] } } := I4.kept (t' := s4.toks) fun b ob q => Heap.get?_push_of_some _ q
  show wpAny (model X.prog X.w) X.A (subscriptTail e (.Slice none none (some (.UnaryOp .USub (.Constant (.int 1) k p1) p2)) p3) (.ref a) (.ref s4.heap.objs.size)) (EP X pins σ Q) X.xe { s4 with heap := s4.heap.push { cls := .type "slice", data := .fields #[vl, vu, vs] } }
  rcases q with ⟨hx, q⟩ | ⟨hx, q⟩
  · obtain ⟨its, r, ht, hz⟩ := I5.list hx
    have hlen := r.length
    refine tail_any (ops := [.ref a, .ref s4.heap.objs.size]) ht.isList.typeIs (PySem.slot_list_getitem.lookup) ?_ (by with_unfolding_all rfl)
    refine wpAny_getItem_list_slice ht.isList (Heap.IsSliceOf.new _ vl vu vs) pl pu ps (by decide) ?_ (by rw [List.size_toArray]; omega)
    rw [PySem.W.krv_pick]
    refine ⟨.ref _, _, I5.laid (t' := s4.toks) (o := .lst xs.reverse) (fun b ob q => Heap.get?_push_of_some _ q) (Nat.le_refl _) ?_, rfl, q _ (I5.hok.fresh (Nat.le_refl _))⟩
    exact ⟨by rw [List.length_reverse]; exact hz, _, 0, r.reverse, Heap.get?_push_size _ rfl⟩
  · obtain ⟨its, r, ht, hz⟩ := I5.tuple hx
    have hlen : its.toArray.size = xs.length := by rw [List.size_toArray]; exact r.length.symm
    have evl : vl = .none := by cases pl; rfl
    have evu : vu = .none := by cases pu; rfl
    subst evl evu
    refine tail_any (ops := [.ref a, .ref s4.heap.objs.size]) ht.typeIs (PyProof.Rows.slot_tuple_getitem.lookup) ?_ (by with_unfolding_all rfl)
    refine HT.getItem_tuple_rev ht (Heap.IsSliceOf.new _ .none .none vs) ps ?_ (by rw [hlen]; exact hz)
    refine ⟨.ref _, _, I5.laid (t' := s4.toks) (o := .tup xs.reverse) (fun b ob q => Heap.get?_push_of_some _ q) (Nat.le_refl _) ?_, rfl, q _ (I5.hok.fresh (Nat.le_refl _))⟩
    exact ⟨by rw [List.length_reverse]; exact hz, _, r.reverse, IsTup.new _ _⟩
end
end L2
namespace DL
open PySem PySem.Spec PyProof.Rows L2
def revA : D → Option D
  | .lst ds => some (.lst ds.reverse)
  | .tup ds => some (.tup ds.reverse)
  | .ctp ds => some (.tup ds.reverse)
  | _ => none
section
variable {X : Cx} {W : WZ} {O : List Nat} {e : Expr} {fa : EF} {ka : Kd} {pos : Pos}
theorem revA_of {K : PySem.W.Frag} : ∀ σ H Q, rd K .e W O (e1 revA fa) σ H Q → tRevA K (rd K ka W O fa) σ H Q := by
  rintro σ H Q ⟨ent, w, ρ, S, r, p⟩
  refine ⟨ent, w, ρ, S, r, p.bind fun d S1 v H1 w1 x g1 z p1 => ?_⟩
  have v1 := (z.ext (H1 := H1) (.refl _ _)).vw g1
  generalize deref S1 d = D1 at v1 p1
  cases v1 with
  | @lst a vs ds h rr => exact ⟨a, vs, rfl, .inl ⟨h, fun p np => p1 _ _ (w1.new p (.lst vs.reverse)) (Ext.newF g1 np) (g1.new np) (.lst (.inl (.inl upd_same)) (rr.reverse.mono (Le.new (g1.noneF np))))⟩⟩
  | @tup a vs ds h rr => exact ⟨a, vs, rfl, .inr ⟨SqT.of (g1.sub _ _ h), fun p np => p1 _ _ (w1.new p (.tup vs.reverse)) (Ext.newF g1 np) (g1.new np) (.tup upd_same (rr.reverse.mono (Le.new (g1.noneF np))))⟩⟩
  | @ctp a vs ds h rr => exact ⟨a, vs, rfl, .inr ⟨SqT.monoF none_le h, fun p np => p1 _ _ (w1.new p (.tup vs.reverse)) (Ext.newF g1 np) (g1.new np) (.tup upd_same (rr.reverse.mono (Le.new (g1.noneF np))))⟩⟩
  | _ => exact p1.elim
theorem de_revA {kk : Nat} {p1 p2 p3 : Pos} (ha : DE ka X W O e fa) : DE .e X W O (.Subscript e (.Slice none none (some (.UnaryOp .USub (.Constant (.int 1) kk p1) p2)) p3) pos) (e1 revA fa) := ⟨(pe_revA ha.pe).imp revA_of⟩
end
end DL

set_option maxHeartbeats 1000000
/-! defs that hand back a new list -/
namespace DL
open PySem PySem.Spec PyProof.Rows L2
def PostG (K : PySem.W.Frag) (w : Wit) (H : Hp) (r : Res) (Q : VK) (E : XK) : Prop := match r with
  | .ok d S => ∀ v H' w', Ext w H w' H' → Gd K w' H' S → KP K .f H w' H' d v → Q v H'
  | .exn x S => ∀ cls dx H' w', Ext w H w' H' → Gd K w' H' S → RepX K w' H' x cls dx → E cls dx H'
  | .stuck => False
section
variable {P : Program} {w : World} {K : PySem.W.Frag} {mg : Str → Option Value} {base : Heap} {x qual : Str} {params : Arguments} {body : List Stmt} {scope : Scope} {dvs : List V} {kws : List (Str × V)} {f : Addr} {fd : FuncData}
end
theorem PostF.g {K : PySem.W.Frag} {w : Wit} {H : Hp} {r : Res} {Q : VK} {E : XK} (h : PostF K w H r Q E) : PostG K w H r Q E := by
  cases r with
  | ok d S =>
    intro v H' w' x g ⟨a, e, n, o⟩
    subst e
    exact h (.ref a) H' (w'.fix H' a) (x.fix o.1 n) (g.fix o.1 o.2.1 fun _ => o.notbl) o.rep
  | exn y S => exact h
  | stuck => exact h
section
variable {X : Cx} {W : WZ} {O : List Nat} {k : Nat} {ps : List Str} {ff : FF} {x : Str} {p pos : Pos} {e : Expr} {es : List Expr} {fa : AF} {f : Addr} {fd : FuncData}
theorem Post.g {K : PySem.W.Frag} {w : Wit} {H : Hp} {σ : L2.St} {r : Res} {Q : VK} (h : Post K .f w H W σ r Q) : PostG K w H r Q (fun cls dx H' => W.wx cls dx σ H') := by
  cases r with
  | ok d S => exact h
  | exn x S => exact h
  | stuck => exact h
end
end DL

/-! x == () at tuples of any items -/
namespace DL
open PySem PySem.Spec PyProof.Rows L2
def eqE (x y : D) : Option D := match x, y with
  | .tup xs, .tup [] => some (.bl xs.isEmpty)
  | x, y => eqF x y
theorem eqE_tup (xs : List D) : eqE (.tup xs) (.tup []) = some (.bl xs.isEmpty) := rfl
section
variable {X : Cx}
theorem op_eqe (hu : X.A.units + 64 < cLine) : OpR X (compareOp .Eq) (r2 X.K .e eqE) := by
  intro pins s σ H x y v u Q I rx ry ⟨w, S, d1, d2, d, g, k1, k2, e, q⟩
  by_cases h : ∃ xs, deref S d1 = .tup xs ∧ deref S d2 = .tup []
  · obtain ⟨xs, h1, h2⟩ := h
    have v1 := k1.vw g
    have v2 := k2.vw g
    rw [h1] at v1 e
    rw [h2] at v2 e
    simp only [eqE] at e
    cases e
    cases v1 with
    | @tup a1 vs1 ds1 t1 r1 =>
      cases v2 with
      | @tup a2 vs2 ds2 t2 r2 =>
        cases rx
        cases ry
        obtain ⟨its1, l1, p1, _⟩ := I.tuple (SqT.of (g.sub _ _ t1))
        obtain ⟨its2, l2, p2, _⟩ := I.tuple (SqT.of (g.sub _ _ t2))
        have n2 : its2.length = 0 := by
          have h1 := r2.length
          have h2 := l2.length
          rw [List.length_nil] at h1
          omega
        have n1 : its1.length = xs.length := by
          have := r1.length
          have := l1.length
          omega
        refine SeqAt.eq_tupleAt (e := fun _ => true) p1 p2 (by omega) (fun j a b => ?_) ?_
        · simp at b; omega
        · have key : ((List.range (min its1.toArray.size its2.toArray.size)).all (fun _ => true) && its1.toArray.size == its2.toArray.size) = xs.isEmpty := by
            have : (List.range (min its1.toArray.size its2.toArray.size)).all (fun _ => true) = true := by simp [List.all_eq_true]
            rw [this, Bool.true_and, Bool.eq_iff_iff, beq_iff_eq, List.isEmpty_iff, List.size_toArray, List.size_toArray]
            rw [n1, n2]
            exact List.length_eq_zero_iff
          exact ⟨.bl _, H, I, by rw [key]; rfl, q _ H w (.refl _ _) g (.bl _)⟩
  · have e' : eqF (deref S d1) (deref S d2) = some d := by
      rw [← e]
      unfold eqE
      split
      · rename_i h1 h2
        exact absurd ⟨_, h1, h2⟩ h
      · rfl
    exact op_eqd hu pins s σ H x y v u Q I rx ry ⟨w, S, d1, d2, d, g, k1, k2, e', q⟩
end
end DL

/-! l.index(x) -/
namespace DL
open PySem PySem.Spec PyProof.Rows L2
def ixOf (x y : D) : Option D := match x with
  | .lst ds => if shD y = true ∧ shD (.lst ds) = true then (ds.findIdx? fun z => eqD z y).map fun j : Nat => D.int j else none
  | _ => none
section
variable {X : Cx} {W : WZ} {O : List Nat} {o e : Expr} {fo fe : EF} {ka kb : Kd} {apos cpos : Pos}
end
end DL

/-! tuple(d), the keys of d are tuples -/
namespace DL
open PySem PySem.Spec PyProof.Rows L2
section
variable {prog : Program} {w : World} {A : Around} {E : Value → Shared → Prop} {s : Shared} {r d : Addr} {n : Nat} {P : Nat → Value → Prop} {OK : Heap → Prop}
end
section
variable {X : Cx}
end
/-! ### tuples that stand in the heap may be known to all -/
theorem RepO.nt {K : PySem.W.Frag} {w : Wit} {H : Hp} {a : Addr} : ∀ {o : SO}, RepO K w H a o → NT (H a)
  | .lst _, ⟨_, e, _⟩ => ⟨_, e, fun _ _ z => by rcases z with z | z <;> cases z⟩
  | .dct _, ⟨_, e, _⟩ => ⟨_, e, fun _ _ z => by rcases z with z | z <;> cases z⟩
  | .dtt _, ⟨_, e, _⟩ => ⟨_, e, fun _ _ z => by rcases z with z | z <;> cases z⟩
  | .ins _ _, ⟨_, _, e, _⟩ => ⟨_, e, fun _ _ z => by rcases z with z | z <;> cases z⟩
theorem frz1 {K : PySem.W.Frag} {w : Wit} {H : Hp} {S : Sto} (g : Gd K w H S) {b : Addr} {vs : List V} (h : H b = some (.tup vs)) : ∃ w', Ext w H w' H ∧ Gd K w' H S ∧ w'.F b = some (.tup vs) := by
  cases e : w.F b with
  | some o =>
    have := g.sub b o e
    rw [h] at this
    cases this
    exact ⟨w, .refl w H, g, e⟩
  | none =>
    have hp : ∀ n, n < w.m → w.phi n ≠ b := fun n hn q => by
      rw [g.len] at hn
      obtain ⟨u, hu, nt⟩ := (g.sto n _ (List.getElem?_eq_getElem hn)).nt
      rw [q, h] at hu
      cases hu
      exact nt _ #[] (.inl rfl)
    refine ⟨w.fix H b, ⟨Le.fix e, fun n h1 h2 => absurd h2 (Nat.not_lt.mpr h1), fun _ _ z => .inr z, fun _ z => z, fun a ha k => ⟨?_, ha⟩⟩, g.fix e hp (fun ps z => by rw [h] at z; cases z), ?_⟩
    · unfold Wit.fix; simp only
      rw [if_neg (fun q : a = b => by
        obtain ⟨u, hu, nt⟩ := ha
        rw [q, h] at hu
        cases hu
        exact nt _ #[] (.inl rfl))]
      exact k
    · unfold Wit.fix; simp [h]
theorem frzs {K : PySem.W.Frag} {H : Hp} {S : Sto} : ∀ (bs : List Addr) {w : Wit}, Gd K w H S → (∀ b ∈ bs, ∃ vs, H b = some (.tup vs)) → ∃ w', Ext w H w' H ∧ Gd K w' H S ∧ ∀ b ∈ bs, ∀ vs, H b = some (.tup vs) → w'.F b = some (.tup vs)
  | [], w, g, _ => ⟨w, .refl w H, g, fun b hb => by cases hb⟩
  | b :: bs, w, g, h => by
    obtain ⟨vs, hv⟩ := h b List.mem_cons_self
    obtain ⟨w1, x1, g1, f1'⟩ := frz1 g hv
    obtain ⟨w2, x2, g2, f2'⟩ := frzs bs g1 fun c hc => h c (List.mem_cons_of_mem _ hc)
    refine ⟨w2, x1.trans x2, g2, fun c hc ws hw => ?_⟩
    rcases List.mem_cons.mp hc with rfl | hc
    · rw [hv] at hw
      cases hw
      exact x2.le.F _ _ f1'
    · exact f2' c hc ws hw
theorem reps_keys {K : PySem.W.Frag} {w : Wit} : ∀ k : List L2.Key, Reps K w (k.map kD) (k.map kV)
  | [] => .nil
  | k :: r => .cons (rep_key k) (reps_keys r)
theorem keysT {K : PySem.W.Frag} {w w' : Wit} {H : Hp} : ∀ {ds : List (D × D)} {kvs : List (List L2.Key × V)} {bs : List Addr}, RepT K w ds kvs → IsKeys H kvs bs → (∀ b ∈ bs, ∀ vs, H b = some (.tup vs) → w'.F b = some (.tup vs)) → Reps K w' (ds.map (·.1)) (bs.map V.ref)
  | [], _, _, .nil, hk, _ => by
    cases hk
    exact .nil
  | _ :: ds, _ :: kvs, _, .cons h t, hk, f => by
    cases hk with
    | cons hb tb => exact .cons (.tup (f _ List.mem_cons_self _ hb) (reps_keys _)) (keysT t tb fun b hb => f b (List.mem_cons_of_mem _ hb))
theorem isKeys_tup {H : Hp} {kvs : List (List L2.Key × V)} {bs : List Addr} (hk : IsKeys H kvs bs) : ∀ b ∈ bs, ∃ vs, H b = some (.tup vs) := by
  unfold IsKeys at hk
  induction hk with
  | nil => intro b hb; cases hb
  | cons h t ih =>
    intro b hb
    rcases List.mem_cons.mp hb with rfl | hb
    · exact ⟨_, h⟩
    · exact ih b hb
end DL

/-! raise X(), X an own exception class without own __init__ -/
namespace DL
open PySem PySem.Spec PyProof.Rows L2
section
variable {X : Cx}
end
section
variable {X : Cx} {W : WZ} {L : Lp} {O O' : List Nat} {x : Str} {p pos pos' : Pos}
end
end DL

/-! sorted(d.items()), d a dict by texts or whole numbers -/
namespace DL
open PySem PySem.Spec PyProof.Rows L2
/-! ### what is read off a heap lies in it -/
/-! ### many new things, known to all -/
section
variable {K : PySem.W.Frag} {w : Wit} {H H' : Hp} {S : Sto} {L : List Addr}
end
/-! ### the pairs of a dict in order -/
section
variable {X : Cx}
end
section
variable {X : Cx} {W : WZ} {O : List Nat} {o : Expr} {fo : EF} {ka : Kd} {p pos apos cpos : Pos}
end
end DL

/-! sorted(t), t a tuple -/
namespace DL
open PySem PySem.Spec PyProof.Rows L2
section
variable {X : Cx}
end
end DL

/-! a new list from a call becomes an object of the store; x.append(e) of such -/
namespace DL
open PySem PySem.Spec PyProof.Rows L2
section
variable {K : PySem.W.Frag} {w w1 : Wit} {H H1 : Hp} {S : Sto} {a : Addr} {ds : List D}
theorem Gd.adopt (g : Gd K w H S) (o : Own K w H (.lst ds) a) : Gd K (w.add a) H (S ++ [.lst ds]) where
  len := by simp [Wit.add, g.len]
  sub := g.sub
  sto := fun n u e => by
    by_cases hn : n < S.length
    · rw [List.getElem?_append_left hn] at e
      rw [(Le.add w a).phi n (by rw [g.len]; exact hn)]
      exact (g.sto n u e).mono (Le.add w a) fun z hz => hz
    · rw [List.getElem?_append_right (by omega)] at e
      have en : n = S.length := by
        by_cases q : n - S.length = 0
        · omega
        · rw [List.getElem?_eq_none (by simp; omega)] at e; cases e
      subst en
      simp at e
      subst e
      rw [show (w.add a).phi S.length = a by simp [Wit.add, g.len]]
      obtain ⟨_, _, vs, h, r⟩ := o
      exact ⟨vs, h, r.mono (Le.add w a)⟩
  inj := fun i j hi hj e => by
    have hi' : i < w.m + 1 := hi
    have hj' : j < w.m + 1 := hj
    have np : ∀ n, n < w.m → w.phi n ≠ a := o.2.1
    simp only [Wit.add] at e
    by_cases q : i = w.m <;> by_cases q' : j = w.m
    · omega
    · rw [if_pos q, if_neg q'] at e; exact absurd e.symm (np j (by omega))
    · rw [if_neg q, if_pos q'] at e; exact absurd e (np i (by omega))
    · rw [if_neg q, if_neg q'] at e; exact g.inj i j (by omega) (by omega) e
  nofz := fun i hi => by
    have hi' : i < w.m + 1 := hi
    show w.F ((w.add a).phi i) = none
    simp only [Wit.add]
    by_cases q : i = w.m
    · rw [if_pos q]; exact o.1
    · rw [if_neg q]; exact g.nofz i (by omega)
  tab := g.tab.to rfl g.tab.f fun _ _ e _ => e
theorem Ext.adopt (x : Ext w H w1 H1) (h : Nb (H a)) : Ext w H (w1.add a) H1 where
  le := x.le.trans (Le.add w1 a)
  new := fun n h1 h2 => by
    have h2' : n < w1.m + 1 := h2
    by_cases q : n = w1.m
    · subst q; simpa [Wit.add] using h
    · rw [(Le.add w1 a).phi n (by omega)]
      exact x.new n h1 (by omega)
  keep := x.keep
  there := x.there
  fz := x.fz
end
section
variable {X : Cx} {W : WZ} {L : Lp} {O : List Nat} {e : Expr} {fe : EF} {x : Str} {p pos pos' apos cpos : Pos}
end
end DL

set_option maxHeartbeats 4000000
/-! set(xs), xs a list of texts: len(set(xs)), sorted(set(xs)) -/
namespace DL
open PySem PySem.Spec PyProof.Rows L2 PySem.Froz
section
variable {P : Program} {w : World} {A : Around} {E : Value → Shared → Prop} {s : Shared} {a : Addr} {l : List Str}
end
section
variable {P : Program} {w : World} {A : Around} {I : Addr} {fp wr : List Addr} {G : Array GenState → Array GenState → Prop} {n : Nat} {Pv : Nat → Value → Prop} {St : Nat → Shared → Prop}
end
section
variable {P : Program} {w : World} {A : Around} {E : Value → Shared → Prop} {s : Shared}
end
end DL

set_option maxHeartbeats 4000000
/-! len(set(xs)), sorted(set(xs)), xs a list of texts -/
namespace DL
open PySem PySem.Spec PyProof.Rows L2 PySem.Froz
/-! ### the order of texts -/
def leS : Str → Str → Bool := PySem.W.dataLe false fun x => PyData.str x
def srtS (l : List Str) : List Str := l.mergeSort leS
/-! ### sets tracked -/
section
variable {X : Cx}
end
end DL

set_option maxHeartbeats 4000000
/-! len(set(xs)), sorted(set(xs)): the rules -/
namespace DL
open PySem PySem.Spec PyProof.Rows L2
section
variable {X : Cx} {W : WZ} {O : List Nat} {o : Expr} {fo : EF} {ka : Kd} {p ps pos cpos : Pos}
end
end DL

set_option maxHeartbeats 4000000
/-! a lambda without parameters handed to a def that calls it in a try -/
namespace DL
open PySem PySem.Spec PyProof.Rows L2
section
variable {X : Cx} {W : WZ} {O : List Nat} {fe : EF} {ft : Th → Th}
end
/-! ### the def that got the lambda -/
theorem R.wiped {K : PySem.W.Frag} {Z : Option XC} {e0 : Ent Z} {O : List Nat} {w w1 : Wit} {H H1 : Hp} {σ σ1 : L2.St} {ρ : DEnv} {S S1 : Sto} (ent : Ent none) (h1 : e0.w = ent.w) (h2 : e0.H = ent.H) (h3 : e0.k = ent.k) (r : R K e0 O w H σ ρ S) (x : Ext w H w1 H1) (g : Gd K w1 H1 S1) (hl : σ1.length = σ.length) :
    R K ent [] w1 H1 σ1 (ρ.map fun _ => none) S1 where
  gd := g
  ext := by rw [← h1, ← h2]; exact r.ext.trans x
  kn := by rw [← h3]; exact r.kn.trans x.le
  val := fun i d e _ => by
    rw [List.getElem?_map] at e
    cases q : ρ[i]? with
    | none => rw [q] at e; cases e
    | some o => rw [q] at e; cases e
  own := fun i d e n => by cases n
  dis := fun i j a hi => by cases hi
  len := by rw [List.length_map, hl]; exact r.len
  exc := fun z hz => by cases hz
  thk := fun z hz => by cases hz
theorem Ext.code {K : PySem.W.Frag} {w w' : Wit} {H H' : Hp} {S : Sto} (g : Gd K w H S) (x : Ext w H w' H') {c : Addr} {q : Str} (h : H c = some (LamX.CodeO c q)) : H' c = some (LamX.CodeO c q) := by
  rcases x.keep c _ h with (⟨n, hn, en⟩ | ⟨ps, e⟩) | z
  · obtain ⟨o, ho⟩ : ∃ o, S[n]? = some o := ⟨_, List.getElem?_eq_getElem (by rw [← g.len]; exact hn)⟩
    exact absurd (en ▸ h) (en ▸ (g.sto n o ho).nocode)
  · exact absurd e (LamX.codeO_ne ps)
  · exact z
section
variable {X : Cx} {W : WZ} {O : List Nat} {fe : EF} {ft : Th → Th}
end
end DL

set_option maxHeartbeats 4000000
/-! l.count(b) of truth values; isinstance of a caught exception; a law with lambdas, its head -/
namespace DL
open PySem PySem.Spec PyProof.Rows L2
/-! ### l.count(b) -/
section
variable {X : Cx}
end
section
variable {X : Cx} {W : WZ} {O : List Nat} {o e : Expr} {fo fe : EF} {ka kb : Kd} {apos cpos : Pos}
end
/-! ### isinstance(e, C), e the caught exception -/
end DL

set_option maxHeartbeats 4000000
/-! a law with lambdas: its promise, its head -/
namespace DL
open PySem PySem.Spec PyProof.Rows L2
section
variable {X : Cx} {W : WZ} {O : List Nat} {fe : EF} {ft : Th → Th}
end
/-! ### the head -/
end DL

set_option maxHeartbeats 4000000
/-! == of objects whose class has its own __eq__ -/
namespace DL
open PySem PySem.Spec PyProof.Rows L2
section
variable {X : Cx} {C g : Addr} {k : Nat} {fd : FuncData} {ps : List Str} {sp : Sp}
end
section
variable {X : Cx} {W : WZ} {O : List Nat} {a b : Expr} {fa fb : EF} {ff : FF} {c : Str} {k : Nat} {ps : List Str} {pos : Pos}
end
end DL

set_option maxHeartbeats 4000000
/-! isinstance(e, T), e the caught exception, with fields or without -/
namespace DL
open PySem PySem.Spec PyProof.Rows L2
end DL

set_option maxHeartbeats 1000000
/-! the hook with getters of properties: the interpreter's own statics are in its view -/
namespace DL
open PySem PySem.Spec PyProof.Rows L2
section
variable (fa : List He.Fa) (fn : List He.DefD) (ts : List He.Tab) (bs : List (PySem.W.Frag → Bool)) (fp : List He5.DefA)
end
section
variable {fa : List He.Fa} {fn : List He.DefD} {ts : List He.Tab} {bs : List (PySem.W.Frag → Bool)} {fp : List He5.DefA} {w : World} {K : PySem.W.Frag}
end
end DL

set_option maxHeartbeats 1000000
/-! {k: v for x in .. if ..}, keys texts or ints -/
namespace DL
open PySem PySem.Spec PyProof.Rows L2
def dcD (g : GF) (fc fk fv : EF) : List D → List (D × D) → DEnv → Sto → Res
  | [], acc, _, S => .ok (.dct acc) S
  | x :: xs, acc, ρ, S => match g x ρ with
    | none => .stuck
    | some ρ1 => match fc ρ1 S with
      | .ok (.bl true) S1 => (match fk ρ1 S1 with
        | .ok k S2 => (match fv ρ1 S2 with
          | .ok v S3 => (match kOf k with
            | some kk => dcD g fc fk fv xs (putKD acc (fun x => decide (kOf x = some kk)) k v) ρ S3
            | none => .stuck)
          | _ => .stuck)
        | _ => .stuck)
      | .ok (.bl false) S1 => dcD g fc fk fv xs acc ρ S1
      | _ => .stuck
def eDc (vs : List Nat) (fi : IF) (g : GF) (fc fk fv : EF) : EF := fun ρ S => match fi ρ S with
  | .ok ds S1 => dcD g fc fk fv ds [] (wipeD ρ vs) S1
  | .exn x S1 => .exn x S1
  | .stuck => .stuck
theorem putKD_len {ds : List (D × D)} {t : D → Bool} {k v : D} : (putKD ds t k v).length ≤ ds.length + 1 := by
  unfold putKD
  split
  · rw [List.length_map]; exact Nat.le_succ _
  · rw [List.length_append]; exact Nat.le_refl _
theorem deref_kOf {S : Sto} {d : D} {k : L2.Key} (h : kOf d = some k) : deref S d = d := by
  cases d <;> simp [kOf] at h <;> first | exact deref_int | exact deref_str | rfl
theorem pd_dK {o : Option HO} {us : List (L2.Key × V)} (e : o = some (.dK us)) : Pd o := ⟨fun ps z => (by rw [e] at z; cases z), fun c q z => by rw [e] at z; exact codeO_ne' (fun f z => by cases z) (Option.some.inj z).symm⟩
theorem dc_of {K : PySem.W.Frag} {W : WZ} {O vs : List Nat} {fi : IF} {g : GF} {t : TG} {fc fk fv : EF} (hgo : GOk K O g t) (ho : TOwn t vs) (hO : ∀ i, i ∈ vs → i ∉ O) :
    ∀ σ H Q, rd K .f W O (eDc vs fi g fc fk fv) σ H Q → tDc (rdI K W O fi) t (rdT K W.no O fc) (rd K .e W.no O fk) (rd K .e W.no O fv) vs σ H Q := by
  rintro σ H Q ⟨ent, w, ρ, S, r, p⟩
  refine ⟨ent, w, ρ, S, r, ?_⟩
  unfold eDc at p
  cases e1 : fi ρ S with
  | stuck => rw [e1] at p; exact p
  | exn x S1 => rw [e1] at p; exact p
  | ok ds S1 =>
    rw [e1] at p
    intro J H1 w1 x1 g1 hJ hz L hL
    have r1 := (r.later x1 g1).wipe vs hO
    refine ⟨fun i m H => m = ds.length - i ∧ i ≤ ds.length ∧ ∃ w2 acc S2, Ext w1 H1 w2 H ∧ Gd K w2 H S2 ∧ Own K w2 H (.dct acc) L ∧ acc.length ≤ i ∧ Post K .f w1 H1 W σ (dcD g fc fk fv (ds.drop i) acc (wipeD ρ vs) S2) Q, ⟨ds.length, by simp, Nat.zero_le _, w1, [], S1, Ext.newO w1 hL, g1.newO hL, ⟨g1.noneF hL, g1.nophi hL, [], upd_same, .nil⟩, Nat.le_refl _, by simpa using Post.later (r := dcD g fc fk fv ds [] (wipeD ρ vs) S1) x1 p⟩, ?_⟩
    rintro i m H2 ⟨rfl, hi, w2, acc, S2, x2, g2, o2, hl2, p2⟩
    obtain ⟨j1, j2⟩ := hJ w2 H2 S2 i x2.le g2
    by_cases hlt : i < ds.length
    · obtain ⟨jg, jy⟩ := j1 ds[i] (List.getElem?_eq_getElem hlt)
      refine .inr ⟨jg, fun H' => ∃ w' acc' S', Ext w1 H1 w' H' ∧ Gd K w' H' S' ∧ Own K w' H' (.dct acc') L ∧ acc'.length ≤ i + 1 ∧ Post K .f w1 H1 W σ (dcD g fc fk fv (ds.drop (i + 1)) acc' (wipeD ρ vs) S') Q,
        fun H' ⟨w', acc', S', q1, q2, q3, q4, q5⟩ => ⟨ds.length - (i + 1), by omega, rfl, hlt, w', acc', S', q1, q2, q3, q4, q5⟩, fun x H3 y => ?_⟩
      obtain ⟨w3, x3, g3, z3⟩ := jy x H3 y
      rw [List.drop_eq_getElem_cons hlt] at p2
      unfold dcD at p2
      have r3 : R K ent O w3 H3 (L2.wipe σ vs) (wipeD ρ vs) S2 := r1.later (x2.trans x3) g3
      cases e2 : g ds[i] (wipeD ρ vs) with
      | none => rw [e2] at p2; exact p2.elim
      | some ρ3 =>
        rw [e2] at p2
        dsimp only at p2
        refine ho.wiped (hgo.ok r3 z3 e2 fun σ3 s3' r3' => ?_)
        refine ⟨ent, w3, ρ3, S2, r3', ?_⟩
        have o3 : Own K w3 H3 (.dct acc) L := o2.ext x3
        cases e3 : fc ρ3 S2 with
        | stuck => rw [e3] at p2; exact p2.elim
        | exn y S3 => rw [e3] at p2; exact p2.elim
        | ok c S3 =>
          rw [e3] at p2
          cases c with
          | bl b =>
            refine ⟨b, rfl, fun H4 w4 x4 g4 => ?_⟩
            cases b with
            | false =>
              rw [if_neg Bool.false_ne_true]
              exact ⟨w4, acc, S3, x2.trans (x3.trans x4), g4, o3.ext x4, Nat.le_succ_of_le hl2, p2⟩
            | true =>
              rw [if_pos rfl]
              dsimp only at p2
              have r4 := r3'.later x4 g4
              refine ⟨ent, w4, ρ3, S3, r4, ?_⟩
              cases e4 : fk ρ3 S3 with
              | stuck => rw [e4] at p2; exact p2.elim
              | exn y S4 => rw [e4] at p2; exact p2.elim
              | ok dk S4 =>
                rw [e4] at p2
                dsimp only at p2
                intro yk H5 w5 x5 g5 z5
                refine ⟨ent, w5, ρ3, S4, r4.later x5 g5, ?_⟩
                cases e5 : fv ρ3 S4 with
                | stuck => rw [e5] at p2; exact p2.elim
                | exn y S5 => rw [e5] at p2; exact p2.elim
                | ok dv S5 =>
                  rw [e5] at p2
                  dsimp only at p2
                  intro yv H6 w6 x6 g6 z6
                  cases e6 : kOf dk with
                  | none => rw [e6] at p2; exact p2.elim
                  | some kk =>
                    rw [e6] at p2
                    dsimp only at p2
                    have o6 : Own K w6 H6 (.dct acc) L := ((o3.ext x4).ext x5).ext x6
                    obtain ⟨f1, f2, us, f3, f4⟩ := o6
                    have vk := (z5.ext (H1 := H5) (.refl _ _)).vw g5
                    rw [deref_kOf e6] at vk
                    have ey := kOf_vw vk e6
                    rw [kD_kOf e6] at p2
                    exact ⟨us, kk, ey, f3, by rw [← f4.length]; omega, w6, _, S5, (x2.trans (x3.trans (x4.trans (x5.trans x6)))).updO hL, g6.updO f1 f2 (pd_dK f3), ⟨f1, f2, _, upd_same, f4.put z6⟩, Nat.le_trans putKD_len (by omega), p2⟩
          | _ => exact p2.elim
    · have ei : i = ds.length := by omega
      subst ei
      refine .inl ⟨j2 rfl, ?_⟩
      rw [List.drop_length] at p2
      exact p2 _ H2 w2 x2 g2 ⟨L, rfl, hL, o2⟩
section
variable {X : Cx} {W : WZ} {O : List Nat} {kx vx tg iter : Expr} {ifs : List Expr} {scope : Scope} {own : List (Str × Nat)} {pos : Pos} {fi : IF} {g : GF} {t : TG} {fc fk fv : EF}
theorem de_dc (hN : X.N.Nodup) (ok : BlkOk X.N X.env.scope scope own) (hi : DI X W O tg iter fi)
    (hgo : GOk X.K O g t) (hg : ∀ (s : Shared) (H : Hp) (C : Addr) (cl : List (Str × Addr)) (fp : List Addr), PG (X.blk s H scope (compEnvC scope cl C X.env) fp) tg t) (ho : TOwn t (own.map (·.2)))
    (ht : ∀ (s : Shared) (H : Hp) (C : Addr) (cl : List (Str × Addr)) (fp : List Addr), DCs (X.blk s H scope (compEnvC scope cl C X.env) fp) W O ifs fc)
    (hk : ∀ (s : Shared) (H : Hp) (C : Addr) (cl : List (Str × Addr)) (fp : List Addr), DE .e (X.blk s H scope (compEnvC scope cl C X.env) fp) W.no O kx fk)
    (he : ∀ (s : Shared) (H : Hp) (C : Addr) (cl : List (Str × Addr)) (fp : List Addr), DE .e (X.blk s H scope (compEnvC scope cl C X.env) fp) W.no O vx fv)
    (hO : ∀ i, i ∈ own.map (·.2) → i ∉ O := by decide) (hc : X.calm = true := by rfl) (hs : ∀ x, foldedSetIterable iter X.env x = pure x := by intro _; rfl) :
    DE .f X W O (.DictComp kx vx [⟨tg, iter, ifs, 0⟩] scope pos) (eDc (own.map (·.2)) fi g fc fk fv) :=
  ⟨(pe_dc (pos := pos) (tt := rdT X.K W.no O fc) (tk := rd X.K .e W.no O fk) (tv := rd X.K .e W.no O fv) hc hN hi.pi ok hg (fun s H C cl fp => (ht s H C cl fp).pts) (fun s H C cl fp => (hk s H C cl fp).pe) (fun s H C cl fp => (he s H C cl fp).pe) hs).imp (dc_of hgo ho hO)⟩
end
end DL

set_option maxHeartbeats 4000000
/-! t[-2::-1] of tuples -/
namespace HT
open PySem PySem.Spec PyProof.Rows
section
variable {prog : Program} {w : World} {A : Around} {E : Value → Shared → Prop} {s : Shared}
end
end HT
namespace L2
open PySem PySem.Spec PyProof.Rows
section
variable {X : Cx}
end
end L2
namespace DL
open PySem PySem.Spec PyProof.Rows L2
section
variable {X : Cx} {W : WZ} {O : List Nat} {e : Expr} {fa : EF} {ka : Kd} {pos : Pos}
end
end DL

set_option maxHeartbeats 4000000
/-! sorted of any walked thing: by what collecting it gives -/
namespace PySem.W
open PySem PySem.Spec PyProof.Rows PySem.Calls
section
variable {prog : Program} {w : World} {A : Around} {E : Value → Shared → Prop} {s : Shared} {β : Type} {vs : List Value} {bs : List β} {enc : β → PyData} {R : Value → β → Prop}
end
end PySem.W

set_option maxHeartbeats 4000000
/-! sorted of tuples, lists and dicts -/
namespace PySem.W
open PySem PySem.Spec PyProof.Rows PySem.Calls
section
variable {prog : Program} {w : World} {A : Around} {E : Value → Shared → Prop} {s : Shared} {β : Type} {bs : List β} {enc : β → PyData} {R : Value → β → Prop}
theorem sorted_gen2 {x : Value} {Q : Value → Shared → Prop} (hc : ∀ (E' : Value → Shared → Prop) (Q' : List Value → Shared → Prop), (∀ vs h' tk, EachIs R vs bs → EachIs (fun v b => ∃ as, Reads s.heap v (enc b) as) vs bs → (∀ b o, s.heap.get? b = some o → h'.get? b = some o) → Q' vs { s with heap := h', toks := tk }) → wpAny (model prog w) A.in1 (collect x) Q' E' s)
    (hal : AllAlike (bs.map enc)) (hk : Sortable (bs.map enc)) (hL : bs.length ≤ sizeLine)
    (hu : ∀ b, b ∈ bs → A.units + 2 + (enc b).depth < cLine)
    (h : ∀ (h1 : Heap) tk out h' n, out.length = bs.length → EachIs R out (bs.mergeSort (dataLe false enc)) → (∀ b o, s.heap.get? b = some o → h1.get? b = some o) → (∀ b o, h1.get? b = some o → h'.get? b = some o) → h'.get? h1.objs.size = some (seqObj "list" (List.toArray out) n) → Q (.ref h1.objs.size) { s with heap := h', toks := tk }) :
    wpAny (model prog w) A (call (.builtin "sorted") [x]) Q E s := by
  refine call_function_entry_kw kind_sorted plain_sorted entry_sorted (args_sorted1 _) ?_
  unfold Builtin.«sorted»
  refine wpAny_bind (m := checkCount "sorted" 1 1 _) (wpAny_pure ?_)
  refine wpAny_bind (hc _ _ fun vs h1 tk e er k1 => ?_)
  have hv : vs.length ≤ sizeLine := by rw [e.length]; exact hL
  refine wpAny_bind (wpAny_newList ?_ hv)
  have at1 : (h1.push (seqObj "list" vs.toArray 0)).get? h1.objs.size = some (seqObj "list" vs.toArray 0) := Heap.get?_push_size _ rfl
  have k3 : ∀ b o, h1.get? b = some o → b ≠ h1.objs.size ∧ (h1.push (seqObj "list" vs.toArray 0)).get? b = some o := fun b o q => ⟨Nat.ne_of_lt (Heap.lt_size q), Heap.get?_push_of_some _ q⟩
  have k2 : ∀ b o, s.heap.get? b = some o → b ≠ h1.objs.size ∧ (h1.push (seqObj "list" vs.toArray 0)).get? b = some o := fun b o q => k3 b o (k1 b o q)
  show wpAny _ _ _ _ _ { s with heap := h1.push (seqObj "list" vs.toArray 0), toks := tk }
  have er' : EachIs (fun v b => ∃ as, Reads (sortingHeap (h1.push (seqObj "list" vs.toArray 0)) h1.objs.size vs) v (enc b) as) vs bs := er.mono fun _ _ ⟨as, r⟩ => ⟨as, PyProof.Rows.Reads.keeps (fun b o q => sortingHeap_old (k2 b o q).1 (k2 b o q).2) r⟩
  refine wpAny_bind (wpAny_holding (wpAny_call_entry_kw slot_list_sort ⟨_, at1, rfl⟩ entry_list_sort ?body (args_list_sort _)))
  case body =>
    show wpAny (model prog w) A.in1.in1 (Builtin.«list.sort» ⟨[.ref h1.objs.size], []⟩) _ _ _
    refine list_sort_vals (s := { s with heap := h1.push (seqObj "list" vs.toArray 0), toks := tk }) (κ := dataKind (sortingHeap (h1.push (seqObj "list" vs.toArray 0)) h1.objs.size vs) (bs.map enc)) at1 (SortsAt.data (s := { s with heap := sortingHeap (h1.push (seqObj "list" vs.toArray 0)) h1.objs.size vs, toks := tk }) (each_map (R := fun v d => ∃ as, Reads (sortingHeap (h1.push (seqObj "list" vs.toArray 0)) h1.objs.size vs) v d as) enc er') hal hk (bound_map hu)) hv ?_
    refine ⟨_, rfl, wpAny_pure ⟨_, rfl, ?_⟩⟩
    obtain ⟨n, hn⟩ := sortedHeap_at (out := (sortVals (dataKind (sortingHeap (h1.push (seqObj "list" vs.toArray 0)) h1.objs.size vs) (bs.map enc)) false vs vs).toArray) at1
    refine h h1 tk _ _ n (by rw [sortVals_length false rfl]; exact e.length) (sortVals_data false e er' hal) k1 (fun b o q => ?_) hn
    rw [sortedHeap_old (k3 b o q).1 (Heap.lt_size (k3 b o q).2)]
    exact (k3 b o q).2
end
end PySem.W
namespace DL
open PySem PySem.Spec PyProof.Rows L2
def itemsA : D → Option (List D)
  | .lst ds => some ds
  | .tup ds => some ds
  | .ctp ds => some ds
  | .dct kvs => some (kvs.map (·.1))
  | _ => none
def sortA (d : D) : Option D := match itemsA d with
  | some ds => if sortOk ds = true then some (.lst (sortD ds)) else none
  | none => none
section
variable {X : Cx} {pins : List (Addr × Obj)} {σ : L2.St} {s : Shared} {H : Hp} {w : Wit} {S : Sto}
theorem sortA_go (hu : X.A.units + 64 < cLine) {x : Value} {ds : List D} {vs : List V} {E : Value → Shared → Prop} {Q : VK} (I : L2.Inv X pins σ H s) (g : Gd X.K w H S) (rr : Reps X.K w ds vs) (hok : sortOk ds = true)
    (hc : ∀ (E' : Value → Shared → Prop) (Q' : List Value → Shared → Prop), (∀ its h' tk, Vals vs its → (∀ b o, s.heap.get? b = some o → h'.get? b = some o) → Q' its { s with heap := h', toks := tk }) → wpAny (model X.prog X.w) X.A.in1 (collect x) Q' E' s)
    (q : ∀ p vs', H p = none → Reps X.K w (sortD ds) vs' → Q (.ref p) (upd H p (.lst vs'))) :
    wpAny (model X.prog X.w) X.A (call (.builtin "sorted") [x]) (EP X pins σ Q) E s := by
  simp only [sortOk, Bool.and_eq_true, Bool.or_eq_true, decide_eq_true_eq, List.all_eq_true] at hok
  obtain ⟨⟨⟨⟨h1, h2⟩, h3⟩, h4⟩, h5⟩ := hok
  have hl := rr.length
  have hz := zip_fst (as := ds) (bs := vs) hl
  have hm : ∀ b ∈ ds.zip vs, b.1 ∈ ds := fun b hb => by rw [← hz]; exact List.mem_map_of_mem hb
  have h1' : ∀ d ∈ ds, plD d = true := by rw [plDs_all, List.all_eq_true] at h1; exact h1
  have hmap : (ds.zip vs).map (fun b => toPy b.1) = ds.map toPy := by
    have : (ds.zip vs).map (fun b => toPy b.1) = ((ds.zip vs).map (·.1)).map toPy := by rw [List.map_map]; rfl
    rw [this, hz]
  have h5' := lim_size h5
  refine PySem.W.sorted_gen2 (bs := ds.zip vs) (enc := fun b => toPy b.1) (R := RSort X.K w) (fun E' Q' hq => hc E' Q' fun its h' tk rv k => hq its h' tk (each_in rr rv) (each_reads I g.sub (each_in rr rv) fun b hb => h1' _ (hm b hb)) k) ?_ ?_ (by simp; omega) (fun b hb => ?_) fun ha tk out h' n ho hout k1 k3 hn => ?_
  · rw [hmap]
    intro d hd d' hd'
    obtain ⟨x, hx, rfl⟩ := List.mem_map.mp hd
    obtain ⟨y, hy, rfl⟩ := List.mem_map.mp hd'
    exact h2 x hx y hy
  · rw [hmap]
    rcases h3 with h3 | h3
    · refine .inl fun d hd => ?_
      obtain ⟨x, hx, rfl⟩ := List.mem_map.mp hd
      have := h3 x hx
      cases x with
      | tup es => cases es with
        | nil => cases this
        | cons e es => exact ⟨toPy e, toPys es, by simp only [toPy, toPys]⟩
      | ctp es => cases es with
        | nil => cases this
        | cons e es => exact ⟨toPy e, toPys es, by simp only [toPy, toPys]⟩
      | _ => cases this
    · refine .inr fun d hd => ?_
      obtain ⟨x, hx, rfl⟩ := List.mem_map.mp hd
      have := h3 x hx
      cases x <;> first | exact absurd this Bool.false_ne_true | exact ⟨by simp [toPy], by simp [toPy]⟩
  · have := h4 _ (hm b hb)
    have e64 : (toPy b.1).depth ≤ 60 := by simpa using this
    omega
  · obtain ⟨r1, v1⟩ := each_out hout
    have hs : ((ds.zip vs).mergeSort (PySem.W.dataLe false fun b => toPy b.1)).map (·.1) = sortD ds := by
      unfold sortD
      have := List.map_mergeSort (r := PySem.W.dataLe false fun b : D × V => toPy b.1) (s := PySem.W.dataLe false toPy) (f := (·.1)) (l := ds.zip vs) (fun _ _ _ _ => rfl)
      rw [this, hz]
    rw [hs] at r1
    have I1 : Inv X pins σ H { s with heap := ha, toks := tk } := I.kept k1
    have hn0 : H ha.objs.size = none := by
      cases hh : H ha.objs.size with
      | none => rfl
      | some ob => exact absurd (I1.hok.lt hh) (Nat.lt_irrefl _)
    have lo : (((ds.zip vs).mergeSort (PySem.W.dataLe false fun b => toPy b.1)).map (·.2)).length ≤ sizeLine := by
      rw [List.length_map, List.length_mergeSort, List.length_zip]; omega
    have I3 := I1.laid (t' := tk) (a := ha.objs.size) (o := .lst (((ds.zip vs).mergeSort (PySem.W.dataLe false fun b => toPy b.1)).map (·.2))) k3 (Nat.le_refl _) ⟨lo, out, n, v1, hn⟩
    exact ⟨.ref _, _, I3, rfl, q _ _ hn0 r1⟩
end
section
variable {X : Cx}
theorem cr_sortA (hcalm : X.calm = true) (hu : X.A.units + 64 < cLine) : CallR X (.builtin "sorted") (rN X.K .f (f1 sortA)) := by
  refine call1 fun pins s σ H x u Q w S d d' I r g v e q => ?_
  unfold sortA at e
  cases v with
  | @tup a vs ds hF rr =>
    simp only [itemsA] at e
    split at e
    case isFalse => cases e
    rename_i hok
    cases e
    have eu : u = .ref a := r
    subst eu
    obtain ⟨its, rv, ⟨o, eo, hc, n, hdt⟩, z⟩ := I.tuple (SqT.of (g.sub _ _ hF))
    have hl := rv.length
    refine sortA_go hu I g rr hok (fun E' Q' hq => ?_) fun p vs' hn r1 => q _ _ w (Ext.newO w hn) (g.newO hn) ⟨_, rfl, hn, g.noneF hn, g.nophi hn, _, upd_same, r1⟩
    refine wpAny_collect_seq (items := its.toArray) a (.inr rfl) eo hc hdt (fun h' hk => ?_) (by rw [List.size_toArray]; omega)
    exact hq its h' s.toks rv hk
  | @ctp a vs ds hF rr =>
    simp only [itemsA] at e
    split at e
    case isFalse => cases e
    rename_i hok
    cases e
    have eu : u = .ref a := r
    subst eu
    obtain ⟨its, rv, ⟨o, eo, hc, n, hdt⟩, z⟩ := I.tuple (SqT.monoF none_le hF)
    have hl := rv.length
    refine sortA_go hu I g rr hok (fun E' Q' hq => ?_) fun p vs' hn r1 => q _ _ w (Ext.newO w hn) (g.newO hn) ⟨_, rfl, hn, g.noneF hn, g.nophi hn, _, upd_same, r1⟩
    refine wpAny_collect_seq (items := its.toArray) a (.inr rfl) eo hc hdt (fun h' hk => ?_) (by rw [List.size_toArray]; omega)
    exact hq its h' s.toks rv hk
  | @lst a vs ds hF rr =>
    simp only [itemsA] at e
    split at e
    case isFalse => cases e
    rename_i hok
    cases e
    have eu : u = .ref a := r
    subst eu
    obtain ⟨its, rv, ⟨o, n, eo, hc, hd, hdt⟩, z⟩ := I.list hF
    have hl := rv.length
    refine sortA_go hu I g rr hok (fun E' Q' hq => ?_) fun p vs' hn r1 => q _ _ w (Ext.newO w hn) (g.newO hn) ⟨_, rfl, hn, g.noneF hn, g.nophi hn, _, upd_same, r1⟩
    refine wpAny_collect_seq (items := its.toArray) a (.inl rfl) eo hc hdt (fun h' hk => ?_) (by rw [List.size_toArray]; omega)
    exact hq its h' s.toks rv hk
  | @dK a xs kvs hd rr =>
    simp only [itemsA] at e
    split at e
    case isFalse => cases e
    rename_i hok
    cases e
    have eu : u = .ref a := r
    subst eu
    obtain ⟨z, lo, vs, rel, dd⟩ := dk_rd I.hok hd
    obtain ⟨ep, hat⟩ := dd.dictAt
    have hl := Paired.length rel
    refine sortA_go hu I g (rr.keys (w' := w)) hok (fun E' Q' hq => ?_) fun p vs' hn r1 => q _ _ w (Ext.newO w hn) (g.newO hn) ⟨_, rfl, hn, g.noneF hn, g.nophi hn, _, upd_same, r1⟩
    refine PySem.W.kdu_collect (A := X.A.in1) (PySem.W.kdl_dict (knd := mixKind X.prog X.w) (kvs := vs) (ep := ep) lo) (I.ok.hd hcalm) hat (by omega) fun h' tk acc hk hacc => hq _ h' tk ?_ hk
    have el : acc.toList.length = acc.size := by simp
    refine vals_of_at (by rw [List.length_map, el, hacc.1, hl]) fun j x w h1 h2 => ?_
    obtain ⟨k, y, hky, hi⟩ := hacc.2 j w (by rw [← Array.getElem?_toList]; exact h2)
    have e1 : (xs.map (·.1))[j]? = some k := by
      rw [KV.keys rel, List.getElem?_map, hky] <;> rfl
    have e2 : (xs.map fun kv => kV kv.1)[j]? = some (kV k) := by
      have e3 : (xs.map fun kv => kV kv.1) = (xs.map (·.1)).map kV := by rw [List.map_map] <;> rfl
      rw [e3, List.getElem?_map, e1] <;> rfl
    rw [e2] at h1
    cases h1
    exact keyIs_rel hi
  | _ => cases e
end
end DL

set_option maxHeartbeats 4000000
/-! {k: v for x in .. if .. for y in .. if ..} -/
namespace DL
open PySem PySem.Spec PyProof.Rows L2
section
variable {kx vx t0 i0 t1 i1 : Expr} {ifs0 ifs1 : List Expr} {scope : Scope} {pos : Pos}
variable {prog : Program} {w : World} {A : Around} {R : Result → Shared → Prop} {s : Shared} {it : Value} {D : Addr} {env : Env}
end
/-! ### a turn of a clause in a block -/
section
variable {X : Cx} {pins : List (Addr × Obj)} {σ : L2.St} {H : Hp} {s : Shared} {tg : Expr} {ifs : List Expr} {g : TG} {tt : TT} {J : It} {fp : List Addr} {it : Addr} {tn : Nat → Heap → Prop} {i : Nat} {ER : Value → Shared → Prop}
end
/-! ### the two loops -/
section
variable {X : Cx} {pins : List (Addr × Obj)} {kx vx t0 i0 t1 i1 : Expr} {ifs0 ifs1 : List Expr} {scope : Scope} {pos : Pos} {g1 : TG} {tt1 : TT} {tk tv : TE} {J1 : It} {fp1 : List Addr} {it1 : Addr} {tn1 : Nat → Heap → Prop} {σ1 : L2.St} {vs1 : List Nat} {s : Shared} {H : Hp} {D : Addr} {End : Hp → Prop}
end
section
variable {X : Cx}
end
end DL

set_option maxHeartbeats 4000000
/-! dict comprehensions of two clauses, on data -/
namespace DL
open PySem PySem.Spec PyProof.Rows L2
section
variable {X : Cx} {W : WZ} {O : List Nat} {kx vx tg iter tg1 iter1 : Expr} {ifs ifs1 : List Expr} {scope : Scope} {own : List (Str × Nat)} {vs1 : List Nat} {pos : Pos} {fi fi1 : IF} {g gg : GF} {t t1 : TG} {fc fc1 fk fv : EF}
end
section
variable {X : Cx} {W : WZ} {O : List Nat} {kx vx tg iter : Expr} {ifs : List Expr} {scope : Scope} {own : List (Str × Nat)} {pos : Pos} {fi : IF} {g : GF} {t : TG} {fc fk fv : EF}
end
end DL

set_option maxHeartbeats 4000000
/-! set(t), t a tuple of texts -/
namespace DL
open PySem PySem.Spec PyProof.Rows L2 PySem.Froz
section
variable {P : Program} {w : World} {A : Around} {E : Value → Shared → Prop} {s : Shared}
end
section
variable {X : Cx} {W : WZ} {O : List Nat} {o : Expr} {fo : EF} {ka : Kd} {p ps pos cpos : Pos}
end
end DL

set_option maxHeartbeats 4000000
/-! sorted, told so that the kernel can run it: by insertion, where no two items are alike -/
namespace DL
open PySem PySem.Spec PyProof.Rows L2
section
variable {X : Cx}
end
end DL

set_option maxHeartbeats 4000000
/-! list(d), the keys of d are tuples -/
namespace DL
open PySem PySem.Spec PyProof.Rows L2
section
variable {X : Cx}
theorem call_list_dT (hc : X.calm = true) : CallR X (.type "list") (fun xs H Q => ∃ d kvs, xs = [V.ref d] ∧ Rd H d (.dT kvs) ∧ ∀ p bs, H p = none → IsKeys H kvs bs → Q (.ref p) (L2.upd H p (.lst (bs.map V.ref)))) := by
  intro pins s σ H xs us Q I r h
  obtain ⟨d, kvs, rfl, hd, q⟩ := h
  obtain ⟨u, rfl, rx⟩ := r.one
  cases rx
  obtain ⟨z, hs, ks, pr, o, es, ep, ho, hx, hdt, he, _⟩ := (show ObjOk X.prog X.w H s.heap d (.dT kvs) from hd.ok I.hok)
  have l1 : es.size = ks.length := size_of_entries he
  have l2 : kvs.length = ks.length := Paired.length pr
  refine PySem.W.kdl_call (kdl_raw hs hx hdt) (I.ok.hd hc) ho (by omega) fun h' tk acc c' kp hS it => ?_
  have al : acc.toList.length = ks.length := by rw [Array.length_toList, it.1]; exact l1
  have ea : acc.toList = (ks.map fun x => x.2.1).map Value.ref := List.ext_getElem? fun j => by
    rw [List.getElem?_map, List.getElem?_map]
    have qe := entry_at he j
    by_cases hj : j < ks.length
    · have hv : acc.toList[j]? = some (acc.toList[j]'(by omega)) := List.getElem?_eq_getElem _
      obtain ⟨en, hen, hk⟩ := it.2 j _ (by rw [← Array.getElem?_toList]; exact hv)
      rw [List.getElem?_eq_getElem hj] at qe ⊢
      rw [hen] at qe
      have e2 := Option.some.inj qe
      rw [hv, hk, e2]
      rfl
    · rw [List.getElem?_eq_none (by omega), List.getElem?_eq_none (by omega)]
      rfl
  have rv : Vals ((ks.map fun x => x.2.1).map V.ref) acc.toList := by rw [ea]; exact vals_refs _
  have hz : ((ks.map fun x => x.2.1).map V.ref).length ≤ sizeLine := by rw [List.length_map, List.length_map]; omega
  refine ⟨.ref s.heap.objs.size, L2.upd H s.heap.objs.size (.lst ((ks.map fun x => x.2.1).map V.ref)), I.laid kp (Nat.le_refl _) (show ObjOk X.prog X.w _ _ _ (.lst ((ks.map fun x => x.2.1).map V.ref)) from ⟨hz, acc.toList, c', rv, ?_⟩), rfl, q _ _ (I.hok.fresh (Nat.le_refl _)) (isKeys_of pr)⟩
  rw [Array.toArray_toList]
  exact hS
/-- list(x), a dict's keys that are tuples too -/
def lstT (d : D) : Option D := match d with
  | .dtt kvs => some (.lst (kvs.map (·.1)))
  | d => lstF d
theorem cr_lstT (hc : X.calm = true) : CallR X (.type "list") (rN X.K .f (f1 lstT)) := by
  refine call1 fun pins s σ H x u Q w S d d' I r g v e q => ?_
  have rv : Vals [x] [u] := .cons r .nil
  cases v with
  | dT h rr =>
    cases e
    refine call_list_dT hc pins s σ H _ [u] Q I rv ⟨_, _, rfl, .inl h, fun p bs np hk => ?_⟩
    obtain ⟨w1, x1, g1, f1'⟩ := frzs bs g (isKeys_tup hk)
    have rp := keysT (w' := w1) rr hk f1'
    exact q _ _ w1 (x1.trans (Ext.newO w1 np)) (g1.newO np) ⟨p, rfl, np, g1.noneF np, g1.nophi np, _, upd_same, rp⟩
  | lst h rr => cases e; exact call_list_of pins s σ H [_] [u] Q I rv ⟨_, _, rfl, .inl h, fun p np => q _ _ w (Ext.newO w np) (g.newO np) ⟨p, rfl, np, g.noneF np, g.nophi np, _, upd_same, rr⟩⟩
  | tup h rr => cases e; exact call_list_of pins s σ H [_] [u] Q I rv ⟨_, _, rfl, .inr (SqT.of (g.sub _ _ h)), fun p np => q _ _ w (Ext.newO w np) (g.newO np) ⟨p, rfl, np, g.noneF np, g.nophi np, _, upd_same, rr⟩⟩
  | ctp h rr => cases e; exact call_list_of pins s σ H [_] [u] Q I rv ⟨_, _, rfl, .inr (SqT.monoF none_le h), fun p np => q _ _ w (Ext.newO w np) (g.newO np) ⟨p, rfl, np, g.noneF np, g.nophi np, _, upd_same, rr⟩⟩
  | dK h rr => cases e; exact call_listD hc pins s σ H [_] [u] Q I rv ⟨_, _, rfl, h, fun p np => q _ _ w (Ext.newO w np) (g.newO np) ⟨p, rfl, np, g.noneF np, g.nophi np, _, upd_same, rr.keys⟩⟩
  | _ => cases e
end
end DL

set_option maxHeartbeats 4000000
/-! {k: v}, k a tuple -/
namespace DL
open PySem PySem.Spec PyProof.Rows L2
section
variable {X : Cx} {ke ve : Expr} {pos : Pos} {tk tv : TE}
end
section
variable {X : Cx} {W : WZ} {O : List Nat} {ke ve : Expr} {pos : Pos} {fk fv : EF}
end
end DL

set_option maxHeartbeats 4000000
/-! comprehensions that walk over an own dict: the dict is locked meanwhile -/
namespace DL
open PySem PySem.Spec PyProof.Rows L2
section
variable {K : PySem.W.Frag} {Z : Option XC} {ent : Ent Z} {O O' : List Nat} {w : Wit} {H : Hp} {σ : L2.St} {ρ : DEnv} {S : Sto} {i : Nat}
end
theorem RepT.get {K : PySem.W.Frag} {w : Wit} : ∀ {ds : List (D × D)} {vs : List (List L2.Key × V)}, RepT K w ds vs → ∀ {j : Nat} {k : List L2.Key} {v : V}, vs[j]? = some (k, v) → (ds.map (·.1))[j]? = some (.tup (k.map kD))
  | _, _, .nil, j, k, v, h => by simp at h
  | _, _, .cons h t, 0, k, v, e => by simp at e; obtain ⟨rfl, rfl⟩ := e; rfl
  | _, _, .cons h t, j + 1, k, v, e => t.get (j := j) (by simpa using e)
theorem RepK.get {K : PySem.W.Frag} {w : Wit} : ∀ {ds : List (D × D)} {vs : List (L2.Key × V)}, RepK K w ds vs → ∀ {j : Nat} {k : L2.Key} {v : V}, vs[j]? = some (k, v) → (ds.map (·.1))[j]? = some (kD k)
  | _, _, .nil, j, k, v, h => by simp at h
  | _, _, .cons h t, 0, k, v, e => by simp at e; obtain ⟨rfl, rfl⟩ := e; rfl
  | _, _, .cons h t, j + 1, k, v, e => t.get (j := j) (by simpa using e)
section
variable {K : PySem.W.Frag} {W : WZ} {O O' vs : List Nat} {g : GF} {t : TG} {fc fe : EF} {i : Nat}
end
section
variable {X : Cx} {W : WZ} {O O' : List Nat} {elt tg : Expr} {ifs : List Expr} {scope : Scope} {own : List (Str × Nat)} {pos npos : Pos} {g : GF} {t : TG} {fc fe : EF} {x : Str}
end
end DL

set_option maxHeartbeats 4000000
/-! min(l), l a list of texts -/
namespace DL
open PySem PySem.Spec PyProof.Rows L2
section
variable {X : Cx}
end
end DL

set_option maxHeartbeats 1000000
/-! try with clauses that are never met: the body raises nothing -/
namespace L2
open PySem PySem.Spec PyProof.Rows
section
variable {X : Cx} {body : List Stmt} {h₀ : ExceptHandler} {hds : List ExceptHandler} {pos : Pos} {tb : TS}
end
end L2
namespace DL
open PySem PySem.Spec PyProof.Rows L2
end DL

set_option maxHeartbeats 1000000
/-! dict(pairs) -/
namespace DL
open PySem PySem.Spec PyProof.Rows L2
section
variable {K : PySem.W.Frag} {w : Wit} {H : Hp}
end
section
variable {X : Cx}
end
end DL

set_option maxHeartbeats 1000000
/-! range(i, j, -1) -/
namespace DL
open PySem PySem.Spec PyProof.Rows L2
section
variable {K : PySem.W.Frag} {w : Wit}
end
section
variable {X : Cx} {W : WZ} {O : List Nat} {tg e e' e'' : Expr} {fa : AF}
end
end DL

set_option maxHeartbeats 4000000
/-! comprehensions that walk over a known dict: [.. for k in x[0] ..]: the dict is locked meanwhile -/
namespace DL
open PySem PySem.Spec PyProof.Rows L2
section
variable {K : PySem.W.Frag} {w w' : Wit} {a : Addr} {us : List (L2.Key × V)}
/-- a known dict, locked -/
def Wit.put (w : Wit) (a : Addr) (o : HO) : Wit := { w with F := fun b => if b = a then some o else w.F b }
end
section
variable {K : PySem.W.Frag} {W : WZ} {vs : List Nat} {g : GF} {t : TG} {fc fe : EF} {i : Nat} {c : Int}
end
section
variable {X : Cx} {W : WZ} {elt tg : Expr} {ifs : List Expr} {scope : Scope} {own : List (Str × Nat)} {pos npos spos cpos : Pos} {cj : Nat} {g : GF} {t : TG} {fc fe : EF} {x : Str} {c : Int}
end
end DL

/-! name += e of numbers, of an own list; an own list extended by a new list -/
namespace DL
open PySem PySem.Spec PyProof.Rows L2
/-- xs += e, xs.extend(e): xs a slot's own, e a new list -/
def extTo (i : Nat) (ρ : DEnv) (ds : List D) (d : D) (S1 : Sto) : SRes := match d with
  | .lst es => if ds.length + es.length < LIM then .nx (ρ.set i (some (.lst (ds ++ es)))) S1 else .stuck
  | _ => .stuck
def sExtL (i : Nat) (f : EF) : SF := fun ρ S => match ρ[i]? with
  | some (some (.lst ds)) => sBind (f ρ S) ρ fun d S1 => extTo i ρ ds d S1
  | _ => .stuck
section
variable {X : Cx} {W : WZ} {L : Lp} {O : List Nat} {e : Expr} {fe : EF} {k : Kd} {x : Str} {p pos pos' apos cpos : Pos}
theorem extL_core {K : PySem.W.Frag} {Z : Option XC} {ent : Ent Z} {i : Nat} (hi : i ∈ O) {w : Wit} {H : Hp} {σ : L2.St} {ρ : DEnv} {S : Sto} {ds : List D} {a : Addr} {En : Ends} (r : R K ent O w H σ ρ S) (e0 : ρ[i]? = some (some (.lst ds))) (s1 : σ[i]? = some (some (.ref a)))
    {d : D} {S1 : Sto} {v : V} {H1 : Hp} {w1 : Wit} (x1 : Ext w H w1 H1) (g1 : Gd K w1 H1 S1) (z1 : KP K .f H w1 H1 d v) (q1 : SPost K ent L W O (extTo i ρ ds d S1) En) : ∃ b xs zs, v = .ref b ∧ H1 a = some (.lst xs) ∧ H1 b = some (.lst zs) ∧ xs.length + zs.length ≤ sizeLine ∧ En.nx σ (upd H1 a (.lst (xs ++ zs))) := by
  have r1 := r.later x1 g1
  obtain ⟨a', s2, o2, _⟩ := r1.own i _ e0 hi
  rw [s1] at s2; cases s2
  obtain ⟨b, rfl, _, ob⟩ := z1
  unfold extTo at q1
  cases d with
  | lst es =>
    dsimp only at q1
    split at q1
    · rename_i hl
      obtain ⟨vs, hH, rr⟩ := o2.2.2
      obtain ⟨us, hU, ru⟩ := ob.2.2
      exact ⟨b, vs, us, rfl, hH, hU, by rw [← rr.length, ← ru.length]; exact Nat.le_of_lt (lim_size hl), q1 w1 _ σ (r1.upd hi e0 s1 (own_lst o2 (rr.append ru)))⟩
    · exact q1.elim
  | _ => exact q1.elim
theorem ext_of {K : PySem.W.Frag} {i : Nat} (hi : i ∈ O) : ∀ En σ H, rdS K L W O O (sExtL i fe) En σ H → tDrop (tBM K "list" rExtend (tVar i) (tCons (rd K .f W O fe) tNil)) En σ H := by
  rintro En σ H ⟨ent, w, ρ, S, r, p⟩
  unfold sExtL at p
  match e0 : ρ[i]?, p with
  | some (some (.lst ds)), p =>
    obtain ⟨a, s1, o1, _⟩ := r.own i _ e0 hi
    obtain ⟨vs0, hH0, _⟩ := o1.2.2
    refine ⟨.ref a, s1, .inl ⟨rfl, vs0, SqL.of hH0⟩, ent, w, ρ, S, r, SPost.bind r p fun d S1 v H1 w1 x1 g1 z1 q1 => ?_⟩
    obtain ⟨b, xs, zs, ev, hH, hU, hl, q⟩ := extL_core hi r e0 s1 x1 g1 z1 q1
    exact ⟨a, b, xs, zs, rfl, by rw [ev], hH, hU, hl, q⟩
theorem ds_ext (i : Nat) (he : DE .f X W O e fe) (hi : i ∈ O := by decide) (hN : X.N[i]? = some x := by rfl) (hvi : Vis X.env.scope x := by first | exact Or.inl rfl | exact Or.inr (Or.inl rfl) | exact Or.inr (Or.inr rfl)) (hd : (x == ("__debug__" : Str)) = false := by decide) (hcd : (x == ("__classdict__" : Str)) = false := by decide)
    (hsw : swapsWith (.Call (.Attribute (.Name x p) "extend" apos) [e] [] cpos) none pos.line X.env = pure false := by rfl)
    (hb : attributeBase (.Name x p) "extend" X.env (eval (.Name x p) X.env) = eval (.Name x p) X.env := by rfl)
    (hf : (((((backTo cpos (starEach [e] X.env)).all fun x => !x.fst) && (backToKw cpos (keywordEach [] X.env)).all fun x => x.fst.isSome) && decide (([e].length + ([] : List Keyword).length + if ([] : List Keyword).isEmpty = true then 0 else 1) < 30)) = true) := by rfl)
    (hl : (apos.endLine == cpos.line) = true := by rfl) (hse : starEach [e] X.env = (false, eval e X.env) :: starEach [] X.env := by rfl) (hpl : ((backTo cpos (starEach [] X.env)).any fun x => x.fst) = false := by rfl) :
    DS X W L O (.Expr (.Call (.Attribute (.Name x p) "extend" apos) [e] [] cpos) pos) O (sExtL i fe) :=
  ⟨(ps_expr (pe_bm PySem.F.plainAttrs_list PySem.F.slot_list_extend PySem.F.type_list_extend mt_extend (pe_var hN hvi hd hcd) (pa_cons he.pe pa_nil hse) hb hf hl hse hpl) hsw).imp (ext_of hi)⟩
end
/-- a new list that becomes an object of the store -/
def eObj (f : EF) : EF := fun ρ S => match f ρ S with
  | .ok d S1 => (match d with
    | .lst ds => .ok (.obj S1.length) (S1 ++ [.lst ds])
    | _ => .stuck)
  | .exn x S1 => .exn x S1
  | .stuck => .stuck
section
variable {X : Cx} {W : WZ} {O : List Nat} {e : Expr} {fe : EF}
theorem obj_of {K : PySem.W.Frag} : ∀ σ H Q, rd K .e W O (eObj fe) σ H Q → rd K .f W O fe σ H Q := by
  rintro σ H Q ⟨ent, w, ρ, S, r, p⟩
  refine ⟨ent, w, ρ, S, r, ?_⟩
  unfold eObj at p
  cases e1 : fe ρ S with
  | stuck => rw [e1] at p; exact p
  | exn x S1 => rw [e1] at p; exact p
  | ok d S1 =>
    rw [e1] at p
    rintro v H1 w1 x1 g1 ⟨a, rfl, na, ow⟩
    cases d with
    | lst ds =>
      have e : (w1.add a).phi S1.length = a := by simp [Wit.add, g1.len]
      have q : Rep K (w1.add a) (.obj S1.length) (.ref ((w1.add a).phi S1.length)) := .obj (by simp [Wit.add, g1.len])
      rw [e] at q
      exact p _ _ _ (x1.adopt (a := a) na) (g1.adopt ow) q
    | _ => exact p.elim
theorem de_obj (he : DE .f X W O e fe) : DE .e X W O e (eObj fe) := ⟨he.pe.imp obj_of⟩
end
end DL

/-! a call of what an expression gives: one of some defs -/
namespace DL
open PySem PySem.Spec PyProof.Rows L2
section
variable {X : Cx} {W : WZ} {O : List Nat} {fe e : Expr} {es : List Expr} {ff : EF} {fa : AF} {x : Str} {pos : Pos} {n : Nat} {tbl : List (Str × FF)} {k : Nat} {ps : List Str} {g : FF}
end
end DL

/-! e.append(x), e any expression that gives a list of the store -/
namespace DL
open PySem PySem.Spec PyProof.Rows L2
def appTo (n : Nat) (ρ : DEnv) (d : D) (S2 : Sto) : SRes := match S2[n]? with
  | some (.lst ds) => if ds.length < LIM then .nx ρ (S2.set n (.lst (ds ++ [d]))) else .stuck
  | _ => .stuck
def sAppE (fo f : EF) : SF := fun ρ S => sBind (fo ρ S) ρ fun o S1 => match o with
  | .obj n => (match S1[n]? with
    | some (.lst _) => sBind (f ρ S1) ρ fun d S2 => appTo n ρ d S2
    | _ => .stuck)
  | _ => .stuck
section
variable {X : Cx} {W : WZ} {L : Lp} {O : List Nat} {o e : Expr} {fo fe : EF} {pos apos cpos : Pos}
theorem appE_of {K : PySem.W.Frag} : ∀ En σ H, rdS K L W O O (sAppE fo fe) En σ H → tDrop (tBM K "list" rAppend (rd K .e W O fo) (tCons (rd K .e W O fe) tNil)) En σ H := by
  rintro En σ H ⟨ent, w, ρ, S, r, p⟩
  refine ⟨ent, w, ρ, S, r, SPost.bind r p fun o S1 v H1 w1 x1 g1 z1 q1 => ?_⟩
  have r1 := r.later x1 g1
  have z1 : Rep K w1 o v := z1
  cases o with
  | obj n =>
    cases z1 with
    | obj hm =>
    have hm' : n < S1.length := by rw [← g1.len]; exact hm
    dsimp only at q1
    cases e2 : S1[n]? with
    | none => rw [List.getElem?_eq_getElem hm'] at e2; cases e2
    | some so =>
      have h0 := g1.sto n so e2
      rw [e2] at q1
      cases so with
      | lst ds0 =>
        obtain ⟨vs0, hH0, _⟩ := h0
        refine ⟨.inl ⟨rfl, vs0, SqL.of hH0⟩, ent, w1, ρ, S1, r1, SPost.bind r1 q1 fun d S2 u H2 w2 x2 g2 z2 q2 => ?_⟩
        have r2 := r1.later x2 g2
        have ephi : w2.phi n = w1.phi n := x2.le.phi n hm
        unfold appTo at q2
        cases e3 : S2[n]? with
        | none => rw [e3] at q2; exact q2.elim
        | some so =>
          rw [e3] at q2
          cases so with
          | lst ds =>
            obtain ⟨vs, hH, rr⟩ := g2.sto n _ e3
            dsimp only at q2
            split at q2
            · rename_i hl
              refine ⟨w1.phi n, vs, u, rfl, rfl, by rw [← ephi]; exact hH, by rw [← rr.length]; exact lim_size hl, ?_⟩
              rw [← ephi]
              exact q2 w2 _ σ (R.sto r2 e3 ⟨_, upd_same, rr.append (.cons z2 .nil)⟩)
            · exact q2.elim
          | _ => exact q2.elim
      | _ => exact q1.elim
  | _ => exact q1.elim
theorem ds_appE (ho : DE .e X W O o fo) (he : DE .e X W O e fe)
    (hsw : swapsWith (.Call (.Attribute o "append" apos) [e] [] cpos) none pos.line X.env = pure false := by rfl)
    (hb : attributeBase o "append" X.env (eval o X.env) = eval o X.env := by rfl)
    (hf : (((((backTo cpos (starEach [e] X.env)).all fun x => !x.fst) && (backToKw cpos (keywordEach [] X.env)).all fun x => x.fst.isSome) && decide (([e].length + ([] : List Keyword).length + if ([] : List Keyword).isEmpty = true then 0 else 1) < 30)) = true) := by rfl)
    (hl : (apos.endLine == cpos.line) = true := by rfl) (hse : starEach [e] X.env = (false, eval e X.env) :: starEach [] X.env := by rfl) (hpl : ((backTo cpos (starEach [] X.env)).any fun x => x.fst) = false := by rfl) :
    DS X W L O (.Expr (.Call (.Attribute o "append" apos) [e] [] cpos) pos) O (sAppE fo fe) :=
  ⟨(ps_expr (pe_bm PySem.F.plainAttrs_list PySem.F.slot_list_append PySem.F.type_list_append mt_append ho.pe (pa_cons he.pe pa_nil hse) hb hf hl hse hpl) hsw).imp appE_of⟩
end
end DL

/-! l.pop(), l.pop(i), l a list of the store -/
namespace DL
open PySem PySem.Spec PyProof.Rows L2
def popD (n : Nat) (S : Sto) : Res := match S[n]? with
  | some (.lst ds) => (match ds[ds.length - 1]? with
    | some d => .ok d (S.set n (.lst ds.dropLast))
    | none => .stuck)
  | _ => .stuck
def ePop (fo : EF) : EF := fun ρ S => (fo ρ S).bind fun o S1 => match o with
  | .obj n => popD n S1
  | _ => .stuck
section
variable {X : Cx} {W : WZ} {O : List Nat} {o e : Expr} {fo fe : EF} {pos apos cpos : Pos}
theorem pop_of {K : PySem.W.Frag} : ∀ σ H Q, rd K .e W O (ePop fo) σ H Q → tBM0 K "list" rPop (rd K .e W O fo) σ H Q := by
  rintro σ H Q ⟨ent, w, ρ, S, r, p⟩
  refine ⟨ent, w, ρ, S, r, p.bind fun d S1 v H1 w1 x1 g1 z1 p1 => ?_⟩
  have z1 : Rep K w1 d v := z1
  cases d with
  | obj n =>
    cases z1 with
    | obj hm =>
    dsimp only at p1
    unfold popD at p1
    cases e2 : S1[n]? with
    | none => rw [e2] at p1; exact p1.elim
    | some so =>
      have h0 := g1.sto n so e2
      rw [e2] at p1
      cases so with
      | lst ds =>
        obtain ⟨vs, hH, rr⟩ := h0
        dsimp only at p1
        cases e3 : ds[ds.length - 1]? with
        | none => rw [e3] at p1; exact p1.elim
        | some y =>
          rw [e3] at p1
          obtain ⟨u, hu, ru⟩ := rr.get e3
          refine ⟨.inl ⟨rfl, vs, SqL.of hH⟩, w1.phi n, vs, u, rfl, rfl, hH, by rw [← rr.length]; exact hu, ?_⟩
          have h' : RepO K w1 (L2.upd H1 (w1.phi n) (.lst vs.dropLast)) (w1.phi n) (.lst ds.dropLast) := ⟨_, upd_same, rr.dropLast⟩
          exact p1 _ _ w1 (Ext.put w1 H1 hm (g1.sto n _ e2).there h'.ntU) (g1.put e2 h') ru
      | _ => exact p1.elim
  | _ => exact p1.elim
theorem de_pop (ho : DE .e X W O o fo)
    (hbase : attributeBase o "pop" X.env (eval o X.env) = eval o X.env := by rfl) (hline : (apos.endLine == cpos.line) = true := by rfl) :
    DE .e X W O (.Call (.Attribute o "pop" apos) [] [] cpos) (ePop fo) :=
  ⟨(pe_bm0 PySem.F.plainAttrs_list PySem.F.slot_list_pop PySem.F.type_list_pop mt_pop ho.pe hbase hline).imp pop_of⟩
end
end DL

/-! min of a list of tuples of numbers and texts -/
namespace DL
open PySem PySem.Spec PyProof.Rows L2
def scT : D → Bool
  | .int _ => true
  | .str _ => true
  | _ => false
def flT : D → Bool
  | .tup ds => ds.all scT
  | _ => false
def minDD : List D → Option D
  | [] => none
  | a :: r => some (r.foldl (fun a y => if PySem.W.dataLt (toPy y) (toPy a) then y else a) a)
def minOk (ds : List D) : Bool := ds.all flT && (ds.all fun x => ds.all fun y => PySem.W.alike (toPy x) (toPy y)) && decide (ds.length < LIM)
def minTF (d : D) : Option D := match minLF d with
  | some r => some r
  | none => match d with
    | .lst ds => if minOk ds = true then minDD ds else none
    | _ => none
theorem scT_inj : ∀ {x y : D}, scT x = true → scT y = true → toPy x = toPy y → x = y := by
  intro x y hx hy e
  cases x <;> simp [scT] at hx <;> cases y <;> simp [scT] at hy <;> simp [toPy] at e <;> rw [e]
theorem scTs_inj : ∀ {xs ys : List D}, xs.all scT = true → ys.all scT = true → toPys xs = toPys ys → xs = ys
  | [], [], _, _, _ => rfl
  | [], y :: ys, _, _, e => by simp [toPys] at e
  | x :: xs, [], _, _, e => by simp [toPys] at e
  | x :: xs, y :: ys, hx, hy, e => by
    simp only [List.all_cons, Bool.and_eq_true] at hx hy
    simp only [toPys, List.cons.injEq] at e
    rw [scT_inj hx.1 hy.1 e.1, scTs_inj hx.2 hy.2 e.2]
theorem flT_inj {x y : D} (hx : flT x = true) (hy : flT y = true) (e : toPy x = toPy y) : x = y := by
  cases x <;> simp only [flT] at hx <;> first | cases hx | skip
  cases y <;> simp only [flT] at hy <;> first | cases hy | skip
  simp only [toPy, PyData.tuple.injEq] at e
  rw [scTs_inj hx hy e]
theorem scT_depth : ∀ {xs : List D}, xs.all scT = true → PyData.depthAll (toPys xs) = 0
  | [], _ => by simp [toPys, PyData.depthAll]
  | x :: xs, h => by
    simp only [List.all_cons, Bool.and_eq_true] at h
    simp only [toPys, PyData.depthAll, scT_depth h.2]
    cases x <;> simp [scT] at h <;> simp [toPy, PyData.depth]
theorem flT_depth : ∀ {xs : List D}, xs.all flT = true → PyData.depthAll (toPys xs) ≤ 1
  | [], _ => by simp [toPys, PyData.depthAll]
  | x :: xs, h => by
    simp only [List.all_cons, Bool.and_eq_true] at h
    have := flT_depth h.2
    simp only [toPys, PyData.depthAll]
    cases x <;> simp only [flT] at h <;> first | cases h.1 | skip
    simp only [toPy, PyData.depth, scT_depth h.1]
    omega
theorem flT_pl {x : D} (h : flT x = true) : plD x = true := by
  cases x <;> simp only [flT] at h <;> first | cases h | skip
  rename_i ds
  have : plDs ds = true := by
    rw [plDs_all, List.all_eq_true]
    intro d hd
    have := List.all_eq_true.mp h d hd
    cases d <;> simp [scT] at this <;> rfl
  simpa [plD] using this
theorem minDD_py {a : D} {r : List D} {m : D} (h : minDD (a :: r) = some m) : toPy m = PySem.W.minD (toPy a) (toPys r) ∧ m ∈ a :: r := by
  cases h
  unfold PySem.W.minD
  induction r generalizing a with
  | nil => exact ⟨rfl, List.mem_cons_self⟩
  | cons y r ih =>
    simp only [List.foldl_cons, toPys]
    by_cases q : PySem.W.dataLt (toPy y) (toPy a) = true
    · simp only [q, if_true]
      obtain ⟨e, m⟩ := ih (a := y)
      exact ⟨e, List.mem_cons_of_mem _ m⟩
    · rw [Bool.not_eq_true] at q
      simp only [q, Bool.false_eq_true, if_false]
      obtain ⟨e, m⟩ := ih (a := a)
      refine ⟨by simpa using e, ?_⟩
      rcases List.mem_cons.mp m with m | m
      · rw [m]; exact List.mem_cons_self
      · exact List.mem_cons_of_mem _ (List.mem_cons_of_mem _ m)
theorem eachA {h : Heap} : ∀ {vs : List Value} {ds : List PyData}, PySem.W.EachIs (fun v d => ∃ as, Reads h v d as) vs ds → ∃ as, ReadsAll h vs ds as
  | _, _, .nil => ⟨_, .nil⟩
  | _, _, .cons ⟨_, r⟩ t => by
    obtain ⟨as, rs⟩ := eachA t
    exact ⟨_, .cons r rs⟩
theorem eachMp {α β γ : Type} {R : α → γ → Prop} (f : β → γ) : ∀ {as : List α} {bs : List β}, PySem.W.EachIs (fun a b => R a (f b)) as bs → PySem.W.EachIs R as (bs.map f)
  | _, _, .nil => .nil
  | _, _, .cons h t => .cons h (eachMp f t)
theorem eachGt {α β : Type} {R : α → β → Prop} : ∀ {as : List α} {bs : List β}, PySem.W.EachIs R as bs → ∀ {i : Nat} {a : α}, as[i]? = some a → ∃ b, bs[i]? = some b ∧ R a b
  | _, _, .nil, _, _, h => by simp at h
  | _, _, .cons h t, 0, _, e => by cases e; exact ⟨_, rfl, h⟩
  | _, _, .cons h t, i + 1, _, e => eachGt t (i := i) (by simpa using e)
section
variable {X : Cx}
theorem cr_minT (hc : X.calm = true) (hu : X.A.units + 64 < cLine) : CallR X (.builtin "min") (rN X.K .e (f1 minTF)) := by
  refine call1 fun pins s σ H x u Q w S d d' I r g v e q => ?_
  have rv : Vals [x] [u] := .cons r .nil
  cases v with
  | @lst a vs ds h rr =>
    unfold minTF at e
    cases e2 : minLF (.lst ds) with
    | some r2 =>
      rw [e2] at e
      cases e
      simp only [minLF] at e2
      match e3 : intsOf ds, e2 with
      | some (b :: ns), e2 =>
        cases e2
        refine cr_min hc pins s σ H [_] [u] Q I rv ⟨_, b :: ns, rfl, by rw [← ints_of rr e3]; exact h, by simp, fun m hm hl => ?_⟩
        have : m = minI (b :: ns) := by
          have h1 := hl _ (minI_mem (l := b :: ns) (by simp))
          have h2 := minI_le hm
          omega
        rw [this]
        exact q _ H w (.refl _ _) g (.int _)
      | some [], e2 => cases e2
      | none, e2 => cases e2
    | none =>
      rw [e2] at e
      dsimp only at e
      split at e
      · rename_i hok
        simp only [minOk, Bool.and_eq_true, decide_eq_true_eq] at hok
        obtain ⟨⟨h1, h2⟩, h3⟩ := hok
        have eu : u = .ref a := r
        subst eu
        obtain ⟨its, rv', hl, z⟩ := I.list h
        have hlen := rr.length
        have ei := each_in rr rv'
        have hz := zip_fst (as := ds) (bs := vs) hlen
        have hm : ∀ b ∈ ds.zip vs, b.1 ∈ ds := fun b hb => by rw [← hz]; exact List.mem_map_of_mem hb
        have fl : ∀ d ∈ ds, flT d = true := List.all_eq_true.mp h1
        have er := each_reads I g.sub ei fun b hb => flT_pl (fl _ (hm b hb))
        have hmap : (ds.zip vs).map (fun b => toPy b.1) = toPys ds := by
          have : (ds.zip vs).map (fun b => toPy b.1) = ((ds.zip vs).map (·.1)).map toPy := by rw [List.map_map]; rfl
          rw [this, hz, toPys_map]
        obtain ⟨as, ra⟩ := eachA (eachMp (R := fun v d => ∃ as, Reads s.heap v d as) (fun b : D × V => toPy b.1) er)
        rw [hmap] at ra
        cases ds with
        | nil => cases e
        | cons d0 ds =>
          obtain ⟨em, mm⟩ := minDD_py e
          have hd := flT_depth h1
          have al : PySem.W.AlikeAll (toPy d0 :: toPys ds) := by
            refine ⟨fun x hx y hy => ?_, fun x hx => ?_⟩
            · have hx' : x ∈ (d0 :: ds).map toPy := by rw [← toPys_map]; exact hx
              have hy' : y ∈ (d0 :: ds).map toPy := by rw [← toPys_map]; exact hy
              obtain ⟨x, kx, rfl⟩ := List.mem_map.mp hx'
              obtain ⟨y, ky, rfl⟩ := List.mem_map.mp hy'
              exact List.all_eq_true.mp (List.all_eq_true.mp h2 x kx) y ky
            · have hx' : x ∈ (d0 :: ds).map toPy := by rw [← toPys_map]; exact hx
              obtain ⟨x, kx, rfl⟩ := List.mem_map.mp hx'
              have := fl x kx
              cases x <;> simp only [flT] at this <;> first | cases this | simp [toPy]
          have hdep : PyData.depthAll (toPy d0 :: toPys ds) ≤ 1 := hd
          refine PySem.W.min_list_data (vs := its.toArray) (x := toPy d0) (xs := toPys ds) (as := as) (I.ok.hd hc) hl.isList (by simpa [toPys] using ra) al (by omega) fun i v h' tk bs hv rd hk => ?_
          have hv' : its[i]? = some v := by simpa using hv
          obtain ⟨b, hb, hR⟩ := eachGt ei hv'
          obtain ⟨b2, hb2, as2, rd2⟩ := eachGt er hv'
          rw [hb] at hb2
          cases hb2
          have rd3 := Reads.keeps hk rd2
          have eq := (PySem.Reads.unique rd _ _ rd3).1
          have hbm := hm b (List.mem_of_getElem? hb)
          have ed : b.1 = d' := flT_inj (fl _ hbm) (fl _ mm) (by rw [em]; exact eq.symm)
          rw [← ed] at q
          exact ⟨b.2, H, I.kept hk, hR.1, q b.2 H w (.refl _ _) g hR.2⟩
      · cases e
  | _ =>
    unfold minTF at e
    simp [minLF] at e
end
end DL

namespace H
open DL PySem PySem.Spec PyProof.Rows L2
def tb_tuple : String → Bool := fun t => (t == "tuple")
def to_tuple : Str → Option Bool := fun _ => none
def tb_str : String → Bool := fun t => (t == "str")
def to_str : Str → Option Bool := fun _ => none
def tb_int : String → Bool := fun t => (t == "int") || (t == "bool")
def to_int : Str → Option Bool := fun _ => none
def tb_bool : String → Bool := fun t => (t == "bool")
def to_bool : Str → Option Bool := fun _ => none
def tb_tuple_list : String → Bool := fun t => (t == "tuple") || (t == "list")
def to_tuple_list : Str → Option Bool := fun _ => none
def tb_list : String → Bool := fun t => (t == "list")
def to_list : Str → Option Bool := fun _ => none
def tb_House : String → Bool := fun t => false
def to_House : Str → Option Bool := fun d => if d = "House" then some true else none
def b__law_taken : SF :=
  (sSeq (sIf (e2 (iLt fun i j => decide (j < i)) (e2 ixF (eVar 0) (eC (.int 3))) (eC (.int 0))) (sSeq (sSet 2 (e2 modF (eN (f1 intF) (aCons (e2 ixF (eVar 0) (eC (.int 3))) aNil)) (eVar 1)))
  (sSeq (sPutO (eVar 0) (eC (.int 3)) (e2 divF (e2 ixF (eVar 0) (eC (.int 3))) (eVar 1)))
  (sRet (eVar 2)))) sNext)
  (sSeq (sPutO (eVar 0) (eC (.int 1)) (e2 addF (e2 ixF (eVar 0) (eC (.int 1))) (eC (.int 1))))
  (sSeq (sIf (e2 (iLt fun i j => decide (j < i)) (e2 ixF (eVar 0) (eC (.int 1))) (eN (f1 lenF) (aCons (e2 ixF (eVar 0) (eC (.int 0))) aNil))) (sSeq (sPutO (eVar 0) (eC (.int 2)) (e2 modF (eN (f1 intF) (aCons (e2 addF (e2 mulF (e2 ixF (eVar 0) (eC (.int 2))) (eC (.int 48271))) (eC (.int 11))) aNil)) (eC (.int 2147483647))))
  (sRet (e2 modF (eN (f1 intF) (aCons (e2 divF (e2 ixF (eVar 0) (eC (.int 2))) (eC (.int 7))) aNil)) (eVar 1)))) sNext)
  (sSeq (sSet 3 (e2 ixF (e2 ixF (eVar 0) (eC (.int 0))) (e2 subF (e2 ixF (eVar 0) (eC (.int 1))) (eC (.int 1)))))
  (sSeq (sPutO (eVar 0) (eC (.int 2)) (e2 modF (eN (f1 intF) (aCons (e2 addF (e2 addF (e2 mulF (e2 ixF (eVar 0) (eC (.int 2))) (eC (.int 48271))) (eVar 3)) (eC (.int 11))) aNil)) (eC (.int 2147483647))))
  (sSeq (sIf (e2 (iLt fun i j => decide (j ≤ i)) (eVar 3) (e2 powF (eC (.int 10)) (eC (.int 18)))) (sPutO (eVar 0) (eC (.int 3)) (e2 divF (eVar 3) (eVar 1))) sNext)
  (sRet (e2 modF (eN (f1 intF) (aCons (eVar 3) aNil)) (eVar 1)))))))))
def f__law_taken : FF := fnD 4 b__law_taken

def b__law_pick : SF :=
  (sRet (e2 ixF (eVar 1) (eCall f__law_taken (aCons (eVar 0) (aCons (eN (f1 lenF) (aCons (eVar 1) aNil)) aNil)))))
def f__law_pick : FF := fnD 2 b__law_pick

def b__law_tree : SF :=
  (sSeq (sPar [2, 3, 4] (aCons (eLst (aCons (eC (.str ("egg" : Str))) (aCons (eC (.str ("box" : Str))) (aCons (eC (.str ("red" : Str))) (aCons (eC (.str ("blue" : Str))) (aCons (eC (.str ("cat" : Str))) (aCons (eC (.str ("dog" : Str))) (aCons (eC (.str ("sun" : Str))) (aCons (eC (.str ("moon" : Str))) aNil))))))))) (aCons (eCall f__law_taken (aCons (eVar 0) (aCons (eC (.int 3)) aNil))) (aCons (eLst aNil) aNil))))
  (sSeq (sFor (iRange1 (aCons (eVar 1) aNil)) (gtName 5) (sSeq (sSet 6 (e2 addF (eLst (aCons (eC (.str ("top" : Str))) aNil)) (eLc [8] (iSeqB (eVar 4)) (gtName 8) eYes (e2 ixF (eVar 8) (eC (.int 0))))))
  (sSeq (sSet 7 (e2 ixF (eLst (aCons (e2 ixF (eVar 6) (e1 negF (eC (.int 1)))) (aCons (e2 ixF (eVar 6) (e2 modF (eCall f__law_taken (aCons (eVar 0) (aCons (eC (.int 2)) aNil))) (eN (f1 lenF) (aCons (eVar 6) aNil)))) (aCons (eCall f__law_pick (aCons (eVar 0) (aCons (eVar 6) aNil))) aNil)))) (eVar 3)))
  (sApp 4 (eTup (aCons (e2 ixF (eVar 2) (eVar 5)) (aCons (eVar 7) aNil)))))))
  (sRet (eVar 4))))
def f__law_tree : FF := fnD 9 b__law_tree

def b_names_of : SF :=
  (sRet (eLst (aCons (eC (.str ("top" : Str))) (aStar (eLc [1] (iSeq (eVar 0)) (gtName 1) eYes (e2 ixF (eVar 1) (eC (.int 0)))) aNil))))
def f_names_of : FF := fnD 2 b_names_of

def b_is_list : SF :=
  (sRet (eAnd (e1 (isF tb_tuple to_tuple) (eVar 0)) (e2 (iLt fun i j => decide (i ≤ j)) (eN (f1 lenF) (aCons (eVar 0) aNil)) (eVar 1))))
def f_is_list : FF := fnD 2 b_is_list

def b_is_word : SF :=
  (sRet (eAnd (e1 (isF tb_str to_str) (eVar 0)) (eAnd (eChain (iLt fun i j => decide (i ≤ j)) (iLt fun i j => decide (i ≤ j)) (eC (.int 1)) (eN (f1 lenF) (aCons (eVar 0) aNil)) (eC (.int 6))) (eN (f1 allF) (aCons (eLc [1] (iStr (eVar 0)) (gtName 1) eYes (e2 signF (eVar 1) (eC (.str ("abcdefghijklmnopqrstuvwxyz" : Str))))) aNil)))))
def f_is_word : FF := fnD 2 b_is_word

def b_is_class : SF :=
  (sSeq (sIf (eOr (eNot (e1 (isF tb_tuple to_tuple) (eVar 1))) (eOr (e2 neF (eN (f1 lenF) (aCons (eVar 1) aNil)) (eC (.int 4))) (eNot (eCall f_is_word (aCons (e2 ixF (eVar 1) (eC (.int 0))) aNil))))) (sRet (eC (.bl false))) sNext)
  (sSeq (sIf (eOr (e2 inF (e2 ixF (eVar 1) (eC (.int 0))) (eC (.ctp [.str ("top" : Str), .str ("num" : Str), .str ("none" : Str), .str ("odd" : Str), .str ("unset" : Str)]))) (e2 inF (e2 ixF (eVar 1) (eC (.int 0))) (eCall f_names_of (aCons (eVar 0) aNil)))) (sRet (eC (.bl false))) sNext)
  (sRet (eAnd (eCall f_is_word (aCons (e2 ixF (eVar 1) (eC (.int 1))) aNil)) (e2 inF (e2 ixF (eVar 1) (eC (.int 1))) (eCall f_names_of (aCons (eVar 0) aNil)))))))
def f_is_class : FF := fnD 2 b_is_class

def b_row_of : SF :=
  (sSeq (sSet 2 (eLst aNil))
  (sSeq (sFor (iSeq (e1 revA (eVar 0))) (gtName 3) (sIf (e2 eqF (e2 ixF (eVar 3) (eC (.int 0))) (eVar 1)) (sSeq (sApp 2 (eVar 3))
  (sSet 1 (e2 ixF (eVar 3) (eC (.int 1))))) sNext))
  (sRet (eVar 2))))
def f_row_of : FF := fnD 4 b_row_of

def b_are_fields : SF :=
  (sSeq (sIf (eNot (eCall f_is_list (aCons (e2 ixF (eVar 2) (eC (.int 2))) (aCons (eC (.int 4)) aNil)))) (sRet (eC (.bl false))) sNext)
  (sSeq (sSet 3 (eLc2 [5, 4] [4] (iSeq (eCall f_row_of (aCons (eVar 0) (aCons (e2 ixF (eVar 2) (eC (.int 1))) aNil)))) (gtName 5) eYes (iSeq (e2 ixF (eVar 5) (eC (.int 2)))) (gtName 4) eYes (e2 ixF (eVar 4) (eC (.int 0)))))
  (sSeq (sFor (iSeq (e2 ixF (eVar 2) (eC (.int 2)))) (gtName 4) (sSeq (sIf (eOr (eNot (e1 (isF tb_tuple to_tuple) (eVar 4))) (eOr (e2 neF (eN (f1 lenF) (aCons (eVar 4) aNil)) (eC (.int 2))) (eOr (eNot (eCall f_is_word (aCons (e2 ixF (eVar 4) (eC (.int 0))) aNil))) (e2 inF (e2 ixF (eVar 4) (eC (.int 0))) (eVar 3))))) (sRet (eC (.bl false))) sNext)
  (sSeq (sIf (eOr (eNot (eCall f_is_word (aCons (e2 ixF (eVar 4) (eC (.int 1))) aNil))) (eAnd (e2 neF (e2 ixF (eVar 4) (eC (.int 1))) (eC (.str ("num" : Str)))) (e2 notInF (e2 ixF (eVar 4) (eC (.int 1))) (eVar 1)))) (sRet (eC (.bl false))) sNext)
  (sApp 3 (e2 ixF (eVar 4) (eC (.int 0)))))))
  (sRet (eC (.bl true))))))
def f_are_fields : FF := fnD 6 b_are_fields

def b_has_seen : SF :=
  (sRet (eN (f1 anyF) (aCons (eLc2 [4, 5] [5] (iSeq (eCall f_row_of (aCons (eVar 0) (aCons (eVar 1) aNil)))) (gtName 4) eYes (iSeq (e2 ixF (eVar 4) (eVar 3))) (gtName 5) eYes (e2 eqF (e2 ixF (eVar 5) (eC (.int 0))) (eVar 2))) aNil)))
def f_has_seen : FF := fnD 6 b_has_seen

def b_is_in : SF :=
  (sRet (eAnd (e1 (isF tb_int to_int) (eVar 0)) (eAnd (eNot (e1 (isF tb_bool to_bool) (eVar 0))) (eChain (iLt fun i j => decide (i ≤ j)) (iLt fun i j => decide (i ≤ j)) (eVar 1) (eVar 0) (eVar 2)))))
def f_is_in : FF := fnD 3 b_is_in

def b_is_step : SF :=
  (sSeq (sSet 3 (e2 ixF (eVar 1) (eVar 2)))
  (sSeq (sIf (eOr (eNot (e1 (isF tb_tuple to_tuple) (eVar 3))) (eOr (e2 eqE (eVar 3) (eTup aNil)) (eNot (e1 (isF tb_str to_str) (e2 ixF (eVar 3) (eC (.int 0))))))) (sRet (eC (.bl false))) sNext)
  (sSeq (sIf (eAnd (e2 eqF (eVar 2) (e2 subF (eN (f1 lenF) (aCons (eVar 1) aNil)) (eC (.int 1)))) (e2 notInF (e2 ixF (eVar 3) (eC (.int 0))) (eC (.ctp [.str ("give" : Str), .str ("go" : Str), .str ("throw" : Str)])))) (sRet (eC (.bl false))) sNext)
  (sSeq (sIf (e2 eqF (eN (f1 lenF) (aCons (eVar 3) aNil)) (eC (.int 1))) (sRet (e2 inF (e2 ixF (eVar 3) (eC (.int 0))) (eC (.ctp [.str ("none" : Str), .str ("add" : Str), .str ("less" : Str), .str ("same" : Str), .str ("give" : Str), .str ("throw" : Str), .str ("enter" : Str), .str ("leave" : Str), .str ("copy" : Str), .str ("drop" : Str), .str ("print" : Str)])))) sNext)
  (sSeq (sIf (e2 eqF (eN (f1 lenF) (aCons (eVar 3) aNil)) (eC (.int 2))) (sSeq (sSet 4 (eDisp (((eC (.str ("push" : Str))), (eC (.int 15))) :: (((eC (.str ("take" : Str))), (e2 subF (eC (.int 4)) (eC (.int 1)))) :: (((eC (.str ("keep" : Str))), (e2 subF (eC (.int 4)) (eC (.int 1)))) :: (((eC (.str ("go" : Str))), (e2 subF (eN (f1 lenF) (aCons (eVar 1) aNil)) (eC (.int 1)))) :: (((eC (.str ("if" : Str))), (e2 subF (eN (f1 lenF) (aCons (eVar 1) aNil)) (eC (.int 1)))) :: [])))))))
  (sSeq (sIf (e2 inF (e2 ixF (eVar 3) (eC (.int 0))) (eVar 4)) (sRet (eCall f_is_in (aCons (e2 ixF (eVar 3) (eC (.int 1))) (aCons (eC (.int 0)) (aCons (e2 ixF (eVar 4) (e2 ixF (eVar 3) (eC (.int 0)))) aNil))))) sNext)
  (sRet (eAnd (e2 inF (e2 ixF (eVar 3) (eC (.int 0))) (eTup (aCons (eC (.str ("new" : Str))) (aCons (eC (.str ("cast" : Str))) (aCons (eC (.str ("is" : Str))) aNil))))) (eAnd (eCall f_is_word (aCons (e2 ixF (eVar 3) (eC (.int 1))) aNil)) (e2 inF (e2 ixF (eVar 3) (eC (.int 1))) (eCall f_names_of (aCons (eVar 0) aNil)))))))) sNext)
  (sSeq (sIf (eOr (e2 neF (eN (f1 lenF) (aCons (eVar 3) aNil)) (eC (.int 3))) (eOr (eNot (eCall f_is_word (aCons (e2 ixF (eVar 3) (eC (.int 1))) aNil))) (eNot (eCall f_is_word (aCons (e2 ixF (eVar 3) (eC (.int 2))) aNil))))) (sRet (eC (.bl false))) sNext)
  (sSeq (sSet 5 (eDisp (((eC (.str ("get" : Str))), (eC (.int 2))) :: (((eC (.str ("put" : Str))), (eC (.int 2))) :: (((eC (.str ("call" : Str))), (eC (.int 3))) :: [])))))
  (sRet (eAnd (e2 inF (e2 ixF (eVar 3) (eC (.int 0))) (eVar 5)) (eCall f_has_seen (aCons (eVar 0) (aCons (e2 ixF (eVar 3) (eC (.int 1))) (aCons (e2 ixF (eVar 3) (eC (.int 2))) (aCons (e2 ixF (eVar 5) (e2 ixF (eVar 3) (eC (.int 0)))) aNil))))))))))))))
def f_is_step : FF := fnD 6 b_is_step

def b_is_handler : SF :=
  (sSeq (sIf (eOr (eNot (e1 (isF tb_tuple to_tuple) (eVar 2))) (eOr (e2 neF (eN (f1 lenF) (aCons (eVar 2) aNil)) (eC (.int 4))) (eNot (eCall f_is_in (aCons (e2 ixF (eVar 2) (eC (.int 0))) (aCons (eC (.int 0)) (aCons (e2 subF (eN (f1 lenF) (aCons (eVar 1) aNil)) (eC (.int 1))) aNil))))))) (sRet (eC (.bl false))) sNext)
  (sSeq (sIf (eOr (eNot (eCall f_is_in (aCons (e2 ixF (eVar 2) (eC (.int 1))) (aCons (e2 addF (e2 ixF (eVar 2) (eC (.int 0))) (eC (.int 1))) (aCons (eN (f1 lenF) (aCons (eVar 1) aNil)) aNil))))) (eOr (eNot (eCall f_is_word (aCons (e2 ixF (eVar 2) (eC (.int 2))) aNil))) (e2 notInF (e2 ixF (eVar 2) (eC (.int 2))) (eCall f_names_of (aCons (eVar 0) aNil))))) (sRet (eC (.bl false))) sNext)
  (sRet (eCall f_is_in (aCons (e2 ixF (eVar 2) (eC (.int 3))) (aCons (eC (.int 0)) (aCons (e2 subF (eN (f1 lenF) (aCons (eVar 1) aNil)) (eC (.int 1))) aNil)))))))
def f_is_handler : FF := fnD 3 b_is_handler

def b_check_code : SF :=
  (sSeq (sSet 4 (e2 ixF (eVar 3) (eC (.int 3))))
  (sSeq (sIf (eOr (eNot (eCall f_is_list (aCons (eVar 4) (aCons (eC (.int 20)) aNil)))) (e2 eqE (eVar 4) (eTup aNil))) (sRaise ("BadCode" : Str) [("index" : Str), ("place" : Str), ("step" : Str)] (aCons (eVar 1) (aCons (eVar 2) (aCons (eC .non) aNil)))) sNext)
  (sSeq (sFor (iRange1 (aCons (eN (f1 lenF) (aCons (eVar 4) aNil)) aNil)) (gtName 5) (sIf (eNot (eCall f_is_step (aCons (eVar 0) (aCons (eVar 4) (aCons (eVar 5) aNil))))) (sRaise ("BadCode" : Str) [("index" : Str), ("place" : Str), ("step" : Str)] (aCons (eVar 1) (aCons (eVar 2) (aCons (eVar 5) aNil)))) sNext))
  (sSeq (sIf (eNot (eCall f_is_list (aCons (e2 ixF (eVar 3) (eC (.int 4))) (aCons (eC (.int 4)) aNil)))) (sRaise ("BadHandlers" : Str) [("index" : Str), ("place" : Str), ("row" : Str)] (aCons (eVar 1) (aCons (eVar 2) (aCons (eC .non) aNil)))) sNext)
  (sFor (iEn (aCons (e2 ixF (eVar 3) (eC (.int 4))) aNil)) (gtTup (gtCons (gtName 6) (gtCons (gtName 7) gtNil))) (sIf (eNot (eCall f_is_handler (aCons (eVar 0) (aCons (eVar 4) (aCons (eVar 7) aNil))))) (sRaise ("BadHandlers" : Str) [("index" : Str), ("place" : Str), ("row" : Str)] (aCons (eVar 1) (aCons (eVar 2) (aCons (eVar 6) aNil)))) sNext))))))
def f_check_code : FF := fnD 8 b_check_code

def b_is_kind_in : SF :=
  (sRet (eAnd (eCall f_is_word (aCons (eVar 1) aNil)) (eOr (e2 eqF (eVar 1) (eC (.str ("num" : Str)))) (e2 inF (eVar 1) (eVar 0)))))
def f_is_kind_in : FF := fnD 2 b_is_kind_in

def b_is_method : SF :=
  (sSeq (sSet 4 (e2 ixF (e2 ixF (eVar 2) (eC (.int 3))) (eVar 3)))
  (sSeq (sIf (eOr (eNot (e1 (isF tb_tuple to_tuple) (eVar 4))) (eOr (e2 neF (eN (f1 lenF) (aCons (eVar 4) aNil)) (eC (.int 5))) (eNot (eCall f_is_word (aCons (e2 ixF (eVar 4) (eC (.int 0))) aNil))))) (sRet (eC (.bl false))) sNext)
  (sSeq (sIf (eOr (e2 inF (e2 ixF (eVar 4) (eC (.int 0))) (eLc [6] (iSeq (eSl slF (e2 ixF (eVar 2) (eC (.int 3))) (eC .non) (e1 ptF (eVar 3)))) (gtName 6) eYes (e2 ixF (eVar 6) (eC (.int 0))))) (eNot (eCall f_is_list (aCons (e2 ixF (eVar 4) (eC (.int 1))) (aCons (eC (.int 3)) aNil))))) (sRet (eC (.bl false))) sNext)
  (sSeq (sIf (eOr (eNot (eN (f1 allF) (aCons (eLc [7] (iSeq (e2 ixF (eVar 4) (eC (.int 1)))) (gtName 7) eYes (eCall f_is_kind_in (aCons (eVar 1) (aCons (eVar 7) aNil)))) aNil))) (eNot (eCall f_is_kind_in (aCons (eVar 1) (aCons (e2 ixF (eVar 4) (eC (.int 2))) aNil))))) (sRet (eC (.bl false))) sNext)
  (sSeq (sFor (iSeq (eCall f_row_of (aCons (eVar 0) (aCons (e2 ixF (eVar 2) (eC (.int 1))) aNil)))) (gtName 5) (sFor (iSeq (e2 ixF (eVar 5) (eC (.int 3)))) (gtName 6) (sIf (eAnd (e2 eqF (e2 ixF (eVar 6) (eC (.int 0))) (e2 ixF (eVar 4) (eC (.int 0)))) (e2 neF (eSl slF (eVar 6) (e1 ptF (eC (.int 1))) (e1 ptF (eC (.int 3)))) (eSl slF (eVar 4) (e1 ptF (eC (.int 1))) (e1 ptF (eC (.int 3)))))) (sRet (eC (.bl false))) sNext)))
  (sRet (eC (.bl true))))))))
def f_is_method : FF := fnD 8 b_is_method

def b_check_classes : SF :=
  (sSeq (sIf (eOr (eNot (eCall f_is_list (aCons (eVar 0) (aCons (eC (.int 8)) aNil)))) (e2 eqE (eVar 0) (eTup aNil))) (sRaise ("BadClasses" : Str) [("index" : Str)] (aCons (eC .non) aNil)) sNext)
  (sSeq (sFor (iEn (aCons (eVar 0) aNil)) (gtTup (gtCons (gtName 1) (gtCons (gtName 2) gtNil))) (sIf (eNot (eCall f_is_class (aCons (eSl slF (eVar 0) (eC .non) (e1 ptF (eVar 1))) (aCons (eVar 2) aNil)))) (sRaise ("BadClasses" : Str) [("index" : Str)] (aCons (eVar 1) aNil)) sNext))
  (sSeq (sSet 3 (eCall f_names_of (aCons (eVar 0) aNil)))
  (sSeq (sFor (iEn (aCons (eVar 0) aNil)) (gtTup (gtCons (gtName 1) (gtCons (gtName 2) gtNil))) (sSeq (sIf (eNot (eCall f_are_fields (aCons (eSl slF (eVar 0) (eC .non) (e1 ptF (eVar 1))) (aCons (eVar 3) (aCons (eVar 2) aNil))))) (sRaise ("BadFields" : Str) [("index" : Str)] (aCons (eVar 1) aNil)) sNext)
  (sSeq (sIf (eNot (eCall f_is_list (aCons (e2 ixF (eVar 2) (eC (.int 3))) (aCons (eC (.int 4)) aNil)))) (sRaise ("BadMethods" : Str) [("index" : Str), ("place" : Str)] (aCons (eVar 1) (aCons (eC .non) aNil))) sNext)
  (sFor (iRange1 (aCons (eN (f1 lenF) (aCons (e2 ixF (eVar 2) (eC (.int 3))) aNil)) aNil)) (gtName 4) (sIf (eNot (eCall f_is_method (aCons (eSl slF (eVar 0) (eC .non) (e1 ptF (eVar 1))) (aCons (eVar 3) (aCons (eVar 2) (aCons (eVar 4) aNil)))))) (sRaise ("BadMethods" : Str) [("index" : Str), ("place" : Str)] (aCons (eVar 1) (aCons (eVar 4) aNil))) sNext)))))
  (sFor (iEn (aCons (eVar 0) aNil)) (gtTup (gtCons (gtName 1) (gtCons (gtName 2) gtNil))) (sFor (iEn (aCons (e2 ixF (eVar 2) (eC (.int 3))) aNil)) (gtTup (gtCons (gtName 4) (gtCons (gtName 5) gtNil))) (sExpr (eCall f_check_code (aCons (eVar 0) (aCons (eVar 1) (aCons (eVar 4) (aCons (eVar 5) aNil))))))))))))
def f_check_classes : FF := fnD 6 b_check_classes

def b_House___init__ : SF :=
  (sSeq (sExpr (eCall f_check_classes (aCons (eVar 1) aNil)))
  (sFldO [("House" : Str)] ("told" : Str) (eVar 0) (eVar 1)))
def f_House___init__ : FF := fnD 2 b_House___init__

def b__law_alike (self : FF) : SF :=
  (sSeq (sIf (e1 (isF tb_tuple_list to_tuple_list) (eVar 1)) (sSeq (sIf (eOr (eNot (e1 (isF tb_tuple_list to_tuple_list) (eVar 0))) (e2 neF (e1 (isF tb_list to_list) (eVar 0)) (e1 (isF tb_list to_list) (eVar 1)))) (sRet (eC (.bl false))) sNext)
  (sSeq (sIf (e2 neF (eN (f1 lenF) (aCons (eVar 0) aNil)) (eN (f1 lenF) (aCons (eVar 1) aNil))) (sRet (eC (.bl false))) sNext)
  (sRet (e2 eqF (eLc [2] (iRange1 (aCons (eN (f1 lenF) (aCons (eVar 1) aNil)) aNil)) (gtName 2) (eNot (eCall self (aCons (e2 ixF (eVar 0) (eVar 2)) (aCons (e2 ixF (eVar 1) (eVar 2)) aNil)))) (eVar 2)) (eLst aNil))))) sNext)
  (sSeq (sIf (eOr (eIsN (eVar 1)) (e1 (isF tb_str to_str) (eVar 1))) (sRet (eAnd (e2 eqF (eVar 0) (eVar 1)) (e2 eqF (e1 (isF tb_str to_str) (eVar 0)) (e1 (isF tb_str to_str) (eVar 1))))) sNext)
  (sRet (eAnd (e1 (isF tb_int to_int) (eVar 0)) (eAnd (e2 eqF (e1 (isF tb_bool to_bool) (eVar 0)) (e1 (isF tb_bool to_bool) (eVar 1))) (e2 eqF (eVar 0) (eVar 1)))))))
def f__law_alike : Nat → FF
  | 0 => fnD 3 sNever
  | k + 1 => fnD 3 (b__law_alike (f__law_alike k))

def b_need_house : SF :=
  (sIf (eNot (e1 (isF tb_House to_House) (eVar 0))) sNever sNext)
def f_need_house : FF := fnD 1 b_need_house

def b_need_name : SF :=
  (sIf (eOr (eNot (e1 (isF tb_str to_str) (eVar 1))) (e2 notInF (eVar 1) (eCall f_names_of (aCons (eFld [("House" : Str)] ("told" : Str) (eVar 0)) aNil)))) sNever sNext)
def f_need_name : FF := fnD 2 b_need_name

end H

namespace H
open DL PySem PySem.Spec PyProof.Rows L2 H
end H

namespace H
open DL PySem PySem.Spec PyProof.Rows L2 H
end H

set_option maxHeartbeats 4000000
namespace K86
open DL PySem PySem.Spec PyProof.Rows L2 H
def tpS (i : Nat) : Stmt := PySem.Challenge.pw_classhouse_k86_whole_use_rings.main.body.getD i (.Pass ⟨0, 0, 0, 0⟩)
def inClass (st : Stmt) (i : Nat) : Stmt := (clsB st).getD i (.Pass ⟨0, 0, 0, 0⟩)
abbrev s__law_taken : Stmt := tpS 56
def d__law_taken : He.DefD := ⟨("_law_taken", none), "_law_taken", "_law_taken", defArgs s__law_taken, defBody s__law_taken, defScope s__law_taken, [], []⟩
abbrev s__law_pick : Stmt := tpS 57
def d__law_pick : He.DefD := ⟨("_law_pick", none), "_law_pick", "_law_pick", defArgs s__law_pick, defBody s__law_pick, defScope s__law_pick, [], []⟩
abbrev s__law_tree : Stmt := tpS 59
def d__law_tree : He.DefD := ⟨("_law_tree", none), "_law_tree", "_law_tree", defArgs s__law_tree, defBody s__law_tree, defScope s__law_tree, [], []⟩
abbrev s__law_begins : Stmt := tpS 60
def d__law_begins : He.DefD := ⟨("_law_begins", none), "_law_begins", "_law_begins", defArgs s__law_begins, defBody s__law_begins, defScope s__law_begins, [], []⟩
abbrev s_names_of : Stmt := tpS 25
def d_names_of : He.DefD := ⟨("names_of", none), "names_of", "names_of", defArgs s_names_of, defBody s_names_of, defScope s_names_of, [], []⟩
abbrev s_is_list : Stmt := tpS 24
def d_is_list : He.DefD := ⟨("is_list", none), "is_list", "is_list", defArgs s_is_list, defBody s_is_list, defScope s_is_list, [], []⟩
abbrev s_is_word : Stmt := tpS 23
def d_is_word : He.DefD := ⟨("is_word", none), "is_word", "is_word", defArgs s_is_word, defBody s_is_word, defScope s_is_word, [], []⟩
abbrev s_is_class : Stmt := tpS 27
def d_is_class : He.DefD := ⟨("is_class", none), "is_class", "is_class", defArgs s_is_class, defBody s_is_class, defScope s_is_class, [], []⟩
abbrev s_row_of : Stmt := tpS 26
def d_row_of : He.DefD := ⟨("row_of", none), "row_of", "row_of", defArgs s_row_of, defBody s_row_of, defScope s_row_of, [], []⟩
abbrev s_are_fields : Stmt := tpS 28
def d_are_fields : He.DefD := ⟨("are_fields", none), "are_fields", "are_fields", defArgs s_are_fields, defBody s_are_fields, defScope s_are_fields, [], []⟩
abbrev s_has_seen : Stmt := tpS 31
def d_has_seen : He.DefD := ⟨("has_seen", none), "has_seen", "has_seen", defArgs s_has_seen, defBody s_has_seen, defScope s_has_seen, [], []⟩
abbrev s_is_in : Stmt := tpS 22
def d_is_in : He.DefD := ⟨("is_in", none), "is_in", "is_in", defArgs s_is_in, defBody s_is_in, defScope s_is_in, [], []⟩
abbrev s_is_step : Stmt := tpS 32
def d_is_step : He.DefD := ⟨("is_step", none), "is_step", "is_step", defArgs s_is_step, defBody s_is_step, defScope s_is_step, [], []⟩
abbrev s_is_handler : Stmt := tpS 33
def d_is_handler : He.DefD := ⟨("is_handler", none), "is_handler", "is_handler", defArgs s_is_handler, defBody s_is_handler, defScope s_is_handler, [], []⟩
abbrev s_check_code : Stmt := tpS 34
def d_check_code : He.DefD := ⟨("check_code", none), "check_code", "check_code", defArgs s_check_code, defBody s_check_code, defScope s_check_code, [], []⟩
abbrev s_is_kind_in : Stmt := tpS 29
def d_is_kind_in : He.DefD := ⟨("is_kind_in", none), "is_kind_in", "is_kind_in", defArgs s_is_kind_in, defBody s_is_kind_in, defScope s_is_kind_in, [], []⟩
abbrev s_is_method : Stmt := tpS 30
def d_is_method : He.DefD := ⟨("is_method", none), "is_method", "is_method", defArgs s_is_method, defBody s_is_method, defScope s_is_method, [], []⟩
abbrev s_check_classes : Stmt := tpS 35
def d_check_classes : He.DefD := ⟨("check_classes", none), "check_classes", "check_classes", defArgs s_check_classes, defBody s_check_classes, defScope s_check_classes, [], []⟩
abbrev s_House___init__ : Stmt := inClass (tpS 36) 0
def d_House___init__ : He.DefD := ⟨("House", some "__init__"), "__init__", "House.__init__", defArgs s_House___init__, defBody s_House___init__, defScope s_House___init__, [], []⟩
abbrev s__law_uses : Stmt := tpS 61
def d__law_uses : He.DefD := ⟨("_law_uses", none), "_law_uses", "_law_uses", defArgs s__law_uses, defBody s__law_uses, defScope s__law_uses, [], []⟩
abbrev s__law_led : Stmt := tpS 62
def d__law_led : He.DefD := ⟨("_law_led", none), "_law_led", "_law_led", defArgs s__law_led, defBody s__law_led, defScope s__law_led, [], []⟩
abbrev s__law_alike : Stmt := tpS 58
def d__law_alike : He.DefD := ⟨("_law_alike", none), "_law_alike", "_law_alike", defArgs s__law_alike, defBody s__law_alike, defScope s__law_alike, [], []⟩
abbrev s_need_house : Stmt := tpS 37
def d_need_house : He.DefD := ⟨("need_house", none), "need_house", "need_house", defArgs s_need_house, defBody s_need_house, defScope s_need_house, [], []⟩
abbrev s_methods_at : Stmt := tpS 41
def d_methods_at : He.DefD := ⟨("methods_at", none), "methods_at", "methods_at", defArgs s_methods_at, defBody s_methods_at, defScope s_methods_at, [], []⟩
abbrev s_used_by : Stmt := tpS 46
def d_used_by : He.DefD := ⟨("used_by", none), "used_by", "used_by", defArgs s_used_by, defBody s_used_by, defScope s_used_by, [], []⟩
abbrev s_led_from : Stmt := tpS 51
def d_led_from : He.DefD := ⟨("led_from", none), "led_from", "led_from", defArgs s_led_from, defBody s_led_from, defScope s_led_from, [], []⟩
abbrev s_use_rings : Stmt := tpS 52
def d_use_rings : He.DefD := ⟨("use_rings", none), "use_rings", "use_rings", defArgs s_use_rings, defBody s_use_rings, defScope s_use_rings, [], []⟩
abbrev s_need_name : Stmt := tpS 39
def d_need_name : He.DefD := ⟨("need_name", none), "need_name", "need_name", defArgs s_need_name, defBody s_need_name, defScope s_need_name, [], []⟩
abbrev s_need_class : Stmt := tpS 45
def d_need_class : He.DefD := ⟨("need_class", none), "need_class", "need_class", defArgs s_need_class, defBody s_need_class, defScope s_need_class, [], []⟩
abbrev s_ring_to : Stmt := tpS 54
def d_ring_to : He.DefD := ⟨("ring_to", none), "ring_to", "ring_to", defArgs s_ring_to, defBody s_ring_to, defScope s_ring_to, [], []⟩
abbrev s_begun : Stmt := tpS 47
def d_begun : He.DefD := ⟨("begun", none), "begun", "begun", defArgs s_begun, defBody s_begun, defScope s_begun, [], []⟩
abbrev s_all_begun : Stmt := tpS 49
def d_all_begun : He.DefD := ⟨("all_begun", none), "all_begun", "all_begun", defArgs s_all_begun, defBody s_all_begun, defScope s_all_begun, [], []⟩
abbrev s_is_early : Stmt := tpS 53
def d_is_early : He.DefD := ⟨("is_early", none), "is_early", "is_early", defArgs s_is_early, defBody s_is_early, defScope s_is_early, [], []⟩
abbrev s_need_names : Stmt := tpS 48
def d_need_names : He.DefD := ⟨("need_names", none), "need_names", "need_names", defArgs s_need_names, defBody s_need_names, defScope s_need_names, [], []⟩
abbrev s_met_early : Stmt := tpS 50
def d_met_early : He.DefD := ⟨("met_early", none), "met_early", "met_early", defArgs s_met_early, defBody s_met_early, defScope s_met_early, [], []⟩
abbrev s_law : Stmt := tpS 63
def d_law : He.DefD := ⟨("law", none), "law", "law", defArgs s_law, defBody s_law, defScope s_law, [], []⟩
abbrev s_BadClasses : Stmt := inClass (tpS 2) 0
def d_BadClasses : He.DefD := ⟨("BadClasses", some "__init__"), "__init__", "BadClasses.__init__", defArgs s_BadClasses, defBody s_BadClasses, defScope s_BadClasses, [], []⟩
abbrev s_BadFields : Stmt := inClass (tpS 3) 0
def d_BadFields : He.DefD := ⟨("BadFields", some "__init__"), "__init__", "BadFields.__init__", defArgs s_BadFields, defBody s_BadFields, defScope s_BadFields, [], []⟩
abbrev s_BadMethods : Stmt := inClass (tpS 4) 0
def d_BadMethods : He.DefD := ⟨("BadMethods", some "__init__"), "__init__", "BadMethods.__init__", defArgs s_BadMethods, defBody s_BadMethods, defScope s_BadMethods, [], []⟩
abbrev s_BadCode : Stmt := inClass (tpS 5) 0
def d_BadCode : He.DefD := ⟨("BadCode", some "__init__"), "__init__", "BadCode.__init__", defArgs s_BadCode, defBody s_BadCode, defScope s_BadCode, [], []⟩
abbrev s_BadHandlers : Stmt := inClass (tpS 6) 0
def d_BadHandlers : He.DefD := ⟨("BadHandlers", some "__init__"), "__init__", "BadHandlers.__init__", defArgs s_BadHandlers, defBody s_BadHandlers, defScope s_BadHandlers, [], []⟩
def fn : List He.DefD := [d__law_taken, d__law_pick, d__law_tree, d__law_begins, d_names_of, d_is_list, d_is_word, d_is_class, d_row_of, d_are_fields, d_has_seen, d_is_in, d_is_step, d_is_handler, d_check_code, d_is_kind_in, d_is_method, d_check_classes, d_House___init__, d__law_uses, d__law_led, d__law_alike, d_need_house, d_methods_at, d_used_by, d_led_from, d_use_rings, d_need_name, d_need_class, d_ring_to, d_begun, d_all_begun, d_is_early, d_need_names, d_met_early, d_law, d_BadClasses, d_BadFields, d_BadMethods, d_BadCode, d_BadHandlers]
def fa : List He.Fa := [.free "int", .free "len", .glo "_law_taken", .glo "_law_pick", .free "range", .glo "_law_tree", .free "tuple", .glo "_law_begins", .str "TOP" ("top" : Str), .glo "names_of", .free "isinstance", .glo "is_list", .free "str", .free "all", .str "LETTERS" ("abcdefghijklmnopqrstuvwxyz" : Str), .glo "is_word", .glo "BARRED", .glo "is_class", .glo "row_of", .str "NUM" ("num" : Str), .int "MOST_PARTS" 4, .glo "are_fields", .free "any", .glo "has_seen", .free "bool", .glo "is_in", .int "LOCALS" 4, .glo "ENDS", .glo "BARE", .glo "is_step", .glo "is_handler", .free "enumerate", .int "MOST_STEPS" 20, .glo "check_code", .glo "is_kind_in", .int "MOST_INS" 3, .glo "is_method", .int "MOST_CLASSES" 8, .glo "check_classes", .cls "House", .noat "House" "told", .glo "_law_uses", .free "list", .glo "_law_led", .glo "_law_alike", .glo "House", .glo "need_house", .glo "methods_at", .str "BEGIN" ("begin" : Str), .glo "NAMES", .glo "used_by", .glo "led_from", .free "sorted", .glo "use_rings", .glo "need_name", .glo "need_class", .free "min", .glo "ring_to", .glo "begun", .glo "all_begun", .glo "is_early", .glo "need_names", .glo "met_early", .mkr "House", .glo "law", .noat "BadClasses" "index", .meth "BadClasses" "__init__", .glo "BadClasses", .noat "BadFields" "index", .meth "BadFields" "__init__", .glo "BadFields", .noat "BadMethods" "index", .noat "BadMethods" "place", .meth "BadMethods" "__init__", .glo "BadMethods", .noat "BadCode" "index", .noat "BadCode" "place", .noat "BadCode" "step", .meth "BadCode" "__init__", .glo "BadCode", .noat "BadHandlers" "index", .noat "BadHandlers" "place", .noat "BadHandlers" "row", .meth "BadHandlers" "__init__", .glo "BadHandlers"]
def ts : List He.Tab := []
def bs : List (PySem.W.Frag → Bool) := [fun K => ctB K (He.ga K "BARRED") [.str ("top" : Str), .str ("num" : Str), .str ("none" : Str), .str ("odd" : Str), .str ("unset" : Str)], fun K => ctB K (He.ga K "ENDS") [.str ("give" : Str), .str ("go" : Str), .str ("throw" : Str)], fun K => ctB K (He.ga K "BARE") [.str ("none" : Str), .str ("add" : Str), .str ("less" : Str), .str ("same" : Str), .str ("give" : Str), .str ("throw" : Str), .str ("enter" : Str), .str ("leave" : Str), .str ("copy" : Str), .str ("drop" : Str), .str ("print" : Str)], fun K => isOwnB K "House", fun K => clsIB K "House", fun K => kitB K "House" "House" true, fun K => ctB K (He.ga K "NAMES") [.str ("new" : Str), .str ("get" : Str), .str ("put" : Str), .str ("call" : Str), .str ("cast" : Str), .str ("is" : Str)], fun K => oexB K (He.ga K "BadClasses"), fun K => decide (PySem.W.typeIn K (.ref (He.ma K (He.ga K "BadClasses") "__init__")) = some (.type "function")), fun K => oexB K (He.ga K "BadFields"), fun K => decide (PySem.W.typeIn K (.ref (He.ma K (He.ga K "BadFields") "__init__")) = some (.type "function")), fun K => oexB K (He.ga K "BadMethods"), fun K => decide (PySem.W.typeIn K (.ref (He.ma K (He.ga K "BadMethods") "__init__")) = some (.type "function")), fun K => oexB K (He.ga K "BadCode"), fun K => decide (PySem.W.typeIn K (.ref (He.ma K (He.ga K "BadCode") "__init__")) = some (.type "function")), fun K => oexB K (He.ga K "BadHandlers"), fun K => decide (PySem.W.typeIn K (.ref (He.ma K (He.ga K "BadHandlers") "__init__")) = some (.type "function"))]
end K86

set_option maxHeartbeats 0
namespace K86
open DL PySem PySem.Spec PyProof.Rows L2
abbrev R : PySem.W.OpenRow := PySem.W.OpenLaw.row PySem.Challenge.rw_classhouse_k86_whole_use_rings
abbrev hk : PySem.W.Hook := hookX 4 fa fn ts bs
def ob (s : PySem.W.SharedT) : AlX := obsXG 4 fa fn ts bs (HandSHeadRun.getT s)
theorem ob_eq (s : PySem.W.SharedT) : ob s = hk.obs s.abs := obsXG_eq (HandSHeadRun.getT_eq s)
abbrev loose : List Str := (["ClassError", "BadClasses", "BadFields", "BadMethods", "BadCode", "BadHandlers", "NoHouse", "BadName", "BadRowOfNames", "LETTERS", "MOST_CLASSES", "MOST_PARTS", "MOST_STEPS", "MOST_INS", "LOCALS"] : List Str) ++ (["TOP", "NUM", "BARRED", "BARE", "ENDS", "is_in", "is_word", "is_list", "names_of", "row_of", "is_class", "are_fields", "is_kind_in", "is_method", "has_seen"] : List Str) ++ (["is_step", "is_handler", "check_code", "check_classes", "House", "need_house", "need_name", "methods_at", "NAMES", "BEGIN", "need_class", "used_by", "begun", "need_names", "all_begun"] : List Str) ++ (["met_early", "led_from", "use_rings", "is_early", "ring_to", "_law_taken", "_law_pick", "_law_alike", "_law_tree", "_law_begins", "_law_uses", "_law_led"] : List Str)
theorem runF (w : World) : HandSHeadRun.RunEq R (PySem.W.view R.prog [63]) hk ob 6000 loose (w.withFollow "special-get-raises" false) := by
  intro os
  kernel_rfl
theorem runT (w : World) : HandSHeadRun.RunEq R (PySem.W.view R.prog [63]) hk ob 6000 loose (w.withFollow "special-get-raises" true) := by
  intro os
  kernel_rfl
theorem run : ∀ w : World, HandSHeadRun.RunEq R (PySem.W.view R.prog [63]) hk ob 6000 loose w :=
  PySem.W.byRow2 "special-get-raises" (P := fun w => HandSHeadRun.RunEq R (PySem.W.view R.prog [63]) hk ob 6000 loose w) runF runT
end K86

set_option maxHeartbeats 4000000
namespace H
open DL PySem PySem.Spec PyProof.Rows L2

theorem deref_objI {S : Sto} {n : Nat} {c : Str} {fs : List (Str × D)} (h : S[n]? = some (.ins c fs)) : deref S (.obj n) = .ins c fs := by simp only [deref, h]
/-! ### words in lists -/
theorem any_str (ns : List Str) (n : Str) : ((ns.map D.str).any fun y => eqD y (.str n)) = decide (n ∈ ns) := by
  induction ns with
  | nil => rfl
  | cons a r ih => 
    simp only [List.map_cons, List.any_cons, ih, eqD_str]
    by_cases h : a = n
    · simp [h]
    · have : ¬ n = a := fun q => h q.symm
      simp [h, this]
theorem all_flat (ns : List Str) : (ns.map D.str).all flatD = true := by
  simp [List.all_eq_true, flatD]
theorem inSq_str (ns : List Str) (n : Str) : inSq (.str n) (ns.map D.str) = some (decide (n ∈ ns)) := by
  unfold inSq
  rw [if_pos (.inl (by simp [all_flat, flatD])), any_str]
theorem inF_lst (ns : List Str) (n : Str) : inF (.str n) (.lst (ns.map D.str)) = some (.bl (decide (n ∈ ns))) := by
  simp [inF, inB, inSq_str]
theorem inF_ctp (ns : List Str) (n : Str) : inF (.str n) (.ctp (ns.map D.str)) = some (.bl (decide (n ∈ ns))) := by
  simp [inF, inB, inSq_str]
theorem inF_tup (ns : List Str) (n : Str) : inF (.str n) (.tup (ns.map D.str)) = some (.bl (decide (n ∈ ns))) := by
  simp [inF, inB, inSq_str]
theorem notInF_lst (ns : List Str) (n : Str) : notInF (.str n) (.lst (ns.map D.str)) = some (.bl (!decide (n ∈ ns))) := by
  simp [notInF, inB, inSq_str]
theorem notInF_ctp (ns : List Str) (n : Str) : notInF (.str n) (.ctp (ns.map D.str)) = some (.bl (!decide (n ∈ ns))) := by
  simp [notInF, inB, inSq_str]
theorem eqF_str (a b : Str) : eqF (.str a) (.str b) = some (.bl (decide (a = b))) := by simp [eqF, scalD, eqD_str]
theorem neF_str (a b : Str) : neF (.str a) (.str b) = some (.bl (!decide (a = b))) := by simp [neF, scalD, eqD_str]
theorem eqF_int (a b : Int) : eqF (.int a) (.int b) = some (.bl (decide (a = b))) := by simp [eqF, scalD, eqD_int]
theorem neF_int (a b : Int) : neF (.int a) (.int b) = some (.bl (!decide (a = b))) := by simp [neF, scalD, eqD_int]

/-! ### comprehensions and loops over embedded lists -/
theorem lcD_map {α : Type} {g : GF} {fe : EF} {ρ : DEnv} {S : Sto} (emb val : α → D) : ∀ {l : List α} {acc : List D}, (∀ a ∈ l, ∃ ρ1, g (emb a) ρ = some ρ1 ∧ fe ρ1 S = .ok (val a) S) →
    lcD g eYes fe (l.map emb) acc ρ S = .ok (.lst (acc ++ l.map val)) S
  | [], acc, _ => by simp [lcD]
  | a :: l, acc, h => by
    obtain ⟨ρ1, e1, e2⟩ := h a List.mem_cons_self
    simp only [List.map_cons, lcD, e1, eYes, e2]
    rw [lcD_map emb val fun b hb => h b (List.mem_cons_of_mem _ hb)]
    simp
theorem lcD_filt {α : Type} {g : GF} {fc fe : EF} {ρ : DEnv} {S : Sto} (emb val : α → D) (p : α → Bool) : ∀ {l : List α} {acc : List D}, (∀ a ∈ l, ∃ ρ1, g (emb a) ρ = some ρ1 ∧ fc ρ1 S = .ok (.bl (p a)) S ∧ (p a = true → fe ρ1 S = .ok (val a) S)) →
    lcD g fc fe (l.map emb) acc ρ S = .ok (.lst (acc ++ (l.filter p).map val)) S
  | [], acc, _ => by simp [lcD]
  | a :: l, acc, h => by
    obtain ⟨ρ1, e1, e2, e3⟩ := h a List.mem_cons_self
    simp only [List.map_cons, lcD, e1, e2]
    cases hb : p a with
    | false =>
      simp only [hb]
      rw [lcD_filt emb val p fun b hb => h b (List.mem_cons_of_mem _ hb)]
      simp [hb]
    | true =>
      simp only [e3 hb]
      rw [lcD_filt emb val p fun b hb => h b (List.mem_cons_of_mem _ hb)]
      simp [hb]
/-- a loop whose turns all go on, an invariant of the environment kept, the store left alone -/
theorem forD_keep {g : GF} {body : SF} {S : Sto} (I : DEnv → Prop) : ∀ {xs : List D} {ρ : DEnv}, I ρ → (∀ x ρ, x ∈ xs → I ρ → ∃ ρ1 ρ2, g x ρ = some ρ1 ∧ body ρ1 S = .nx ρ2 S ∧ I ρ2) →
    ∃ ρ', forD g body xs ρ S = .nx ρ' S ∧ I ρ'
  | [], ρ, h, _ => ⟨ρ, rfl, h⟩
  | x :: xs, ρ, h, hs => by
    obtain ⟨ρ1, ρ2, e1, e2, h2⟩ := hs x ρ List.mem_cons_self h
    obtain ⟨ρ', e3, h3⟩ := forD_keep (xs := xs) I h2 fun y ρ hy => hs y ρ (List.mem_cons_of_mem _ hy)
    exact ⟨ρ', by simp only [forD, e1, e2, e3], h3⟩

/-! ### classes -/
structure Me where
  w : Str
  ins : List Str
  out : Str
  cd : D
  hd : D
/-- the steps, the handlers -/
def Me.code (m : Me) : List D := match m.cd with
  | .tup l => l
  | _ => []
def Me.hs (m : Me) : List D := match m.hd with
  | .tup l => l
  | _ => []
structure Cl where
  n : Str
  u : Str
  fs : List (Str × Str)
  ms : List Me
def dF (f : Str × Str) : D := .tup [.str f.1, .str f.2]
def dM (m : Me) : D := .tup [.str m.w, .tup (m.ins.map .str), .str m.out, m.cd, m.hd]
def dC (c : Cl) : D := .tup [.str c.n, .str c.u, .tup (c.fs.map dF), .tup (c.ms.map dM)]
def dCs (cs : List Cl) : D := .tup (cs.map dC)
abbrev top : Str := "top"
def names (cs : List Cl) : List Str := top :: cs.map Cl.n
theorem lim_le {n : Nat} (h : n ≤ 100000) : n < LIM := Nat.lt_of_le_of_lt h (by decide)
theorem names_ok (cs : List Cl) (S : Sto) (h : cs.length ≤ 1000) : f_names_of [dCs cs] S = .ok (.lst ((names cs).map .str)) S := by
  have e := lcD_map (g := gtName 1) (fe := e2 ixF (eVar 1) (eC (.int 0))) (ρ := [some (dCs cs), none]) (S := S) dC (fun c => .str c.n) (l := cs) (acc := []) (fun c _ => ⟨_, rfl, by simp [e2, ixF, ixS, eVar, eC, dC, deref_tup, deref_int, atI_0]⟩)
  have hl : cs.length + 1 < LIM := lim_le (by omega)
  simp [f_names_of, b_names_of, fnD, sRet, sBind, eLst, aCons, aNil, aStar, eC, eLc, iSeq, eVar, dCs, wipeD, itemsD, deref_lst, names] at e ⊢
  simp [e, hl]

/-! ### the classes upward -/
def rowStep (s : (Str × List Cl) × Option D) (c : Cl) : (Str × List Cl) × Option D := (if c.n = s.1.1 then (c.u, s.1.2 ++ [c]) else s.1, some (dC c))
def rowOf (cs : List Cl) (n : Str) : List Cl := (cs.reverse.foldl (fun s c => if c.n = s.1 then (c.u, s.2 ++ [c]) else s) (n, ([] : List Cl))).2
theorem rowStep_fst (l : List Cl) : ∀ (s : (Str × List Cl) × Option D), (l.foldl rowStep s).1 = l.foldl (fun s c => if c.n = s.1 then (c.u, s.2 ++ [c]) else s) s.1 := by
  induction l with
  | nil => intro s; rfl
  | cons c l ih => intro s; simp only [List.foldl_cons]; rw [ih]; rfl
theorem foldl_len (l : List Cl) : ∀ (s : Str × List Cl), (l.foldl (fun s c => if c.n = s.1 then (c.u, s.2 ++ [c]) else s) s).2.length ≤ s.2.length + l.length := by
  induction l with
  | nil => intro s; simp
  | cons c l ih =>
    intro s
    simp only [List.foldl_cons, List.length_cons]
    refine Nat.le_trans (ih _) ?_
    split <;> simp <;> omega
def rowBody : SF := (sIf (e2 eqF (e2 ixF (eVar 3) (eC (.int 0))) (eVar 1)) (sSeq (sApp 2 (eVar 3)) (sSet 1 (e2 ixF (eVar 3) (eC (.int 1))))) sNext)
theorem row_loop (x0 : Option D) (S : Sto) (l : List Cl) : ∀ (s : (Str × List Cl) × Option D), s.1.2.length + l.length ≤ 1000 →
    forD (gtName 3) rowBody (l.map dC) [x0, some (.str s.1.1), some (.lst (s.1.2.map dC)), s.2] S = .nx [x0, some (.str (l.foldl rowStep s).1.1), some (.lst ((l.foldl rowStep s).1.2.map dC)), (l.foldl rowStep s).2] S := by
  induction l with
  | nil => intro s _; rfl
  | cons c l ih =>
    intro s hs
    simp only [List.length_cons] at hs
    have hl : s.1.2.length < LIM := lim_le (by omega)
    have hb : rowBody [x0, some (.str s.1.1), some (.lst (s.1.2.map dC)), some (dC c)] S = .nx [x0, some (.str (rowStep s c).1.1), some (.lst ((rowStep s c).1.2.map dC)), (rowStep s c).2] S := by
      by_cases h : c.n = s.1.1
      · simp [rowBody, fnD, sSeq, sIf, sBind, sRet, sNext, sSet, sExpr, sRaise, e1, e2, eVar, eC, eN, eCall, eAnd, eOr, eNot, eIf, eIsN, eNotN, isNonF, notNonF, eChain, eTup, eLst, eSl, ptF, optI, aCons, aNil, aStar, itemsD, f1, f2, notF, lenF, tupF, lstF, intF, Ress.bind, deref_non, deref_bl, deref_int, deref_str, deref_tup, deref_ctp, deref_lst, deref_dct, deref_dtt, deref_ins, iSeq, iLt, addF, subF, ixF, ixS, isF, tyB, eqF_str, neF_str, eqF_int, neF_int, Res.ofOpt, Res.bind, atI_0, atI_1, eqE_tup, dC, h, sApp, hl, rowStep]
      · simp [rowBody, fnD, sSeq, sIf, sBind, sRet, sNext, sSet, sExpr, sRaise, e1, e2, eVar, eC, eN, eCall, eAnd, eOr, eNot, eIf, eIsN, eNotN, isNonF, notNonF, eChain, eTup, eLst, eSl, ptF, optI, aCons, aNil, aStar, itemsD, f1, f2, notF, lenF, tupF, lstF, intF, Ress.bind, deref_non, deref_bl, deref_int, deref_str, deref_tup, deref_ctp, deref_lst, deref_dct, deref_dtt, deref_ins, iSeq, iLt, addF, subF, ixF, ixS, isF, tyB, eqF_str, neF_str, eqF_int, neF_int, Res.ofOpt, Res.bind, atI_0, atI_1, eqE_tup, dC, h, rowStep]
    simp only [List.map_cons, List.foldl_cons]
    show (match rowBody [x0, some (.str s.1.1), some (.lst (s.1.2.map dC)), some (dC c)] S with
      | .nx ρ2 S2 => forD (gtName 3) rowBody (l.map dC) ρ2 S2
      | .ct ρ2 S2 => forD (gtName 3) rowBody (l.map dC) ρ2 S2
      | .bk ρ2 S2 => .nx ρ2 S2
      | r => r) = _
    rw [hb]
    refine ih (rowStep s c) ?_
    unfold rowStep
    split <;> simp <;> omega
theorem rowOf_len (cs : List Cl) (n : Str) : (rowOf cs n).length ≤ cs.length := by
  have := foldl_len cs.reverse (n, [])
  simpa [rowOf] using this
theorem row_ok (cs : List Cl) (n : Str) (S : Sto) (h : cs.length ≤ 1000) : f_row_of [dCs cs, .str n] S = .ok (.lst ((rowOf cs n).map dC)) S := by
  have e := row_loop (some (dCs cs)) S cs.reverse ((n, []), none) (by simp; exact h)
  have e2 := rowStep_fst cs.reverse ((n, []), none)
  have e3 : revA (dCs cs) = some (.tup (cs.reverse.map dC)) := by simp [revA, dCs]
  have hb : b_row_of ([some (dCs cs), some (.str n)] ++ List.replicate 2 none) S = .rt (.lst ((rowOf cs n).map dC)) S := by
    show (match forD (gtName 3) rowBody (cs.map dC).reverse [some (dCs cs), some (.str n), some (.lst []), none] S with
      | .nx ρ1 S1 => sRet (eVar 2) ρ1 S1
      | r => r) = _
    rw [← List.map_reverse, show ([some (dCs cs), some (.str n), some (.lst []), none] : DEnv) = [some (dCs cs), some (.str n), some (.lst (([] : List Cl).map dC)), none] from rfl, e]
    show SRes.rt (.lst (List.map dC (cs.reverse.foldl rowStep ((n, []), none)).1.2)) S = _
    rw [e2]
    rfl
  show (match b_row_of ([some (dCs cs), some (.str n)] ++ List.replicate 2 none) S with
    | .rt d S1 => Res.ok d S1
    | .nx _ S1 => .ok .non S1
    | .exn x _ S1 => .exn x S1
    | _ => .stuck) = _
  rw [hb]

/-! ### words -/
/-- a word -/
structure W (s : Str) : Prop where
  w : ∀ S, f_is_word [.str s] S = .ok (.bl true) S
  ok : okD 0 (.str s) = true
theorem islist_ok (xs : List D) (k : Int) (S : Sto) : f_is_list [.tup xs, .int k] S = .ok (.bl (decide ((xs.length : Int) ≤ k))) S := by
  have h1 : tb_tuple "tuple" = true := by decide +kernel
  simp [f_is_list, b_is_list, fnD, sSeq, sIf, sBind, sRet, sNext, sSet, sExpr, sRaise, e1, e2, eVar, eC, eN, eCall, eAnd, eOr, eNot, eIf, eIsN, eNotN, isNonF, notNonF, eChain, eTup, eLst, eSl, ptF, optI, aCons, aNil, aStar, itemsD, f1, f2, notF, lenF, tupF, lstF, intF, Ress.bind, deref_non, deref_bl, deref_int, deref_str, deref_tup, deref_ctp, deref_lst, deref_dct, deref_dtt, deref_ins, iSeq, iLt, addF, subF, ixF, ixS, isF, tyB, eqF_str, neF_str, eqF_int, neF_int, Res.ofOpt, Res.bind, atI_0, atI_1, eqE_tup, h1]
theorem isin_int (v a b : Int) (S : Sto) : f_is_in [.int v, .int a, .int b] S = .ok (.bl (decide (a ≤ v) && decide (v ≤ b))) S := by
  have h1 : tb_int "int" = true := by decide +kernel
  have h2 : tb_bool "int" = false := by decide +kernel
  by_cases h : a ≤ v <;> simp [f_is_in, b_is_in, fnD, sSeq, sIf, sBind, sRet, sNext, sSet, sExpr, sRaise, e1, e2, eVar, eC, eN, eCall, eAnd, eOr, eNot, eIf, eIsN, eNotN, isNonF, notNonF, eChain, eTup, eLst, eSl, ptF, optI, aCons, aNil, aStar, itemsD, f1, f2, notF, lenF, tupF, lstF, intF, Ress.bind, deref_non, deref_bl, deref_int, deref_str, deref_tup, deref_ctp, deref_lst, deref_dct, deref_dtt, deref_ins, iSeq, iLt, addF, subF, ixF, ixS, isF, tyB, eqF_str, neF_str, eqF_int, neF_int, Res.ofOpt, Res.bind, atI_0, atI_1, eqE_tup, h1, h2, h]
def barred : List Str := ["top", "num", "none", "odd", "unset"]
theorem isclass_ok {cs : List Cl} {c : Cl} (S : Sto) (hl : cs.length ≤ 1000) (h1 : W c.n) (h2 : c.n ∉ barred) (h3 : c.n ∉ names cs) (h4 : W c.u) (h5 : c.u ∈ names cs) : f_is_class [dCs cs, dC c] S = .ok (.bl true) S := by
  have t1 : tb_tuple "tuple" = true := by decide +kernel
  have t2 : inF (.str c.n) (.ctp [.str ("top" : Str), .str ("num" : Str), .str ("none" : Str), .str ("odd" : Str), .str ("unset" : Str)]) = some (.bl false) := (inF_ctp barred c.n).trans (by rw [decide_eq_false h2])
  have n := names_ok cs S hl
  have m1 := inF_lst (names cs) c.n
  have m2 := inF_lst (names cs) c.u
  simp [h3] at m1
  simp [h5] at m2
  simp [f_is_class, b_is_class, fnD, sSeq, sIf, sBind, sRet, sNext, sSet, sExpr, sRaise, e1, e2, eVar, eC, eN, eCall, eAnd, eOr, eNot, eIf, eIsN, eNotN, isNonF, notNonF, eChain, eTup, eLst, eSl, ptF, optI, aCons, aNil, aStar, itemsD, f1, f2, notF, lenF, tupF, lstF, intF, Ress.bind, deref_non, deref_bl, deref_int, deref_str, deref_tup, deref_ctp, deref_lst, deref_dct, deref_dtt, deref_ins, iSeq, iLt, addF, subF, ixF, ixS, isF, tyB, eqF_str, neF_str, eqF_int, neF_int, Res.ofOpt, Res.bind, atI_0, atI_1, eqE_tup, dC, t1, h1.1 S, h4.1 S, t2, n, m1, m2]
end H

set_option maxHeartbeats 4000000
namespace H
open DL PySem PySem.Spec PyProof.Rows L2

/-! ### comprehensions with two clauses -/
theorem lcDs_map {β : Type} {g : GF} {fe : EF} {ρ : DEnv} {S : Sto} (emb val : β → D) : ∀ {l : List β} {acc : List D}, acc.length + l.length < LIM → (∀ a ∈ l, ∃ ρ1, g (emb a) ρ = some ρ1 ∧ fe ρ1 S = .ok (val a) S) →
    lcDs g eYes fe (l.map emb) acc ρ S = .ok (.lst (acc ++ l.map val)) S
  | [], acc, _, _ => by simp [lcDs]
  | a :: l, acc, hl, h => by
    obtain ⟨ρ1, e1, e2⟩ := h a List.mem_cons_self
    simp only [List.length_cons] at hl
    have ha : acc.length < LIM := by omega
    simp only [List.map_cons, lcDs, e1, eYes, e2, if_pos ha]
    rw [lcDs_map emb val (by simp only [List.length_append, List.length_cons, List.length_nil]; omega) fun b hb => h b (List.mem_cons_of_mem _ hb)]
    simp
theorem lcD2_map {α β : Type} {g g1 : GF} {fi1 : IF} {vs1 : List Nat} {fe : EF} {ρ : DEnv} {S : Sto} (emb : α → D) (inner : α → List β) (embB val : β → D) : ∀ {l : List α} {acc : List D}, acc.length + (l.flatMap inner).length < LIM →
    (∀ a ∈ l, ∃ ρ1, g (emb a) ρ = some ρ1 ∧ fi1 ρ1 S = .ok ((inner a).map embB) S ∧ ∀ b ∈ inner a, ∃ ρ2, g1 (embB b) (wipeD ρ1 vs1) = some ρ2 ∧ fe ρ2 S = .ok (val b) S) →
    lcD2 g eYes fi1 vs1 g1 eYes fe (l.map emb) acc ρ S = .ok (.lst (acc ++ (l.flatMap inner).map val)) S
  | [], acc, _, _ => by simp [lcD2]
  | a :: l, acc, hl, h => by
    obtain ⟨ρ1, e1, e2, e3⟩ := h a List.mem_cons_self
    simp only [List.flatMap_cons, List.length_append] at hl
    have i := lcDs_map (g := g1) (fe := fe) (ρ := wipeD ρ1 vs1) (S := S) embB val (l := inner a) (acc := acc) (by omega) e3
    simp only [List.map_cons, lcD2, e1, eYes, e2]
    rw [i]
    simp only
    rw [lcD2_map emb inner embB val (by simp only [List.length_append, List.length_map]; omega) fun b hb => h b (List.mem_cons_of_mem _ hb)]
    simp

/-! ### what is seen upward -/
/-- sizes that all drawn houses keep -/
def Small (cs : List Cl) : Prop := cs.length ≤ 8 ∧ ∀ c ∈ cs, c.fs.length ≤ 4 ∧ c.ms.length ≤ 4
theorem rowOf_mem {cs : List Cl} {n : Str} {c : Cl} (h : c ∈ rowOf cs n) : c ∈ cs := by
  have : ∀ (l : List Cl) (s : Str × List Cl), (∀ x ∈ s.2, x ∈ cs) → (∀ x ∈ l, x ∈ cs) → ∀ x ∈ (l.foldl (fun s c => if c.n = s.1 then (c.u, s.2 ++ [c]) else s) s).2, x ∈ cs := by
    intro l
    induction l with
    | nil => intro s h1 _ x hx; exact h1 x hx
    | cons a l ih =>
      intro s h1 h2 x hx
      simp only [List.foldl_cons] at hx
      refine ih _ ?_ (fun y hy => h2 y (List.mem_cons_of_mem _ hy)) x hx
      intro y hy
      split at hy
      · rcases List.mem_append.mp hy with hy | hy
        · exact h1 y hy
        · simp at hy; subst hy; exact h2 _ List.mem_cons_self
      · exact h1 y hy
  exact this cs.reverse (n, []) (by simp) (by simp) c h
theorem flat_len {α : Type} {k : Nat} {l : List Cl} (f : Cl → List α) (h : ∀ c ∈ l, (f c).length ≤ k) : (l.flatMap f).length ≤ l.length * k := by
  induction l with
  | nil => simp
  | cons a l ih =>
    simp only [List.flatMap_cons, List.length_append, List.length_cons, Nat.add_mul, Nat.one_mul]
    have := h a List.mem_cons_self
    have := ih fun c hc => h c (List.mem_cons_of_mem _ hc)
    omega
theorem Small.fl {cs : List Cl} (h : Small cs) (n : Str) : ((rowOf cs n).flatMap Cl.fs).length ≤ 32 := by
  have h1 := flat_len (l := rowOf cs n) (k := 4) Cl.fs fun c hc => (h.2 c (rowOf_mem hc)).1
  have h2 := rowOf_len cs n
  have := h.1
  omega
theorem Small.ml {cs : List Cl} (h : Small cs) (n : Str) : ((rowOf cs n).flatMap Cl.ms).length ≤ 32 := by
  have h1 := flat_len (l := rowOf cs n) (k := 4) Cl.ms fun c hc => (h.2 c (rowOf_mem hc)).2
  have h2 := rowOf_len cs n
  have := h.1
  omega
def upF (cs : List Cl) (n : Str) : List Str := ((rowOf cs n).flatMap Cl.fs).map (·.1)
def upM (cs : List Cl) (n : Str) : List Str := ((rowOf cs n).flatMap Cl.ms).map Me.w
theorem bls_map {α : Type} (f : α → Bool) (l : List α) : blsOf (l.map fun a => D.bl (f a)) = some (l.map f) := by
  induction l with
  | nil => rfl
  | cons a l ih => simp [blsOf, ih]
theorem at2_2 (a b c d : D) : L2.atI [a, b, c, d] 2 = some c := rfl
theorem at2_3 (a b c d : D) : L2.atI [a, b, c, d] 3 = some d := rfl
theorem seenF_ok {cs : List Cl} (n w : Str) (S : Sto) (h : Small cs) : f_has_seen [dCs cs, .str n, .str w, .int 2] S = .ok (.bl ((upF cs n).any fun x => decide (x = w))) S := by
  have r := row_ok cs n S (by have := h.1; omega)
  have hl := h.fl n
  have hL : 32 < LIM := by decide
  have e := lcD2_map (g := gtName 4) (g1 := gtName 5) (fi1 := iSeq (e2 ixF (eVar 4) (eVar 3))) (vs1 := [5]) (fe := e2 eqF (e2 ixF (eVar 5) (eC (.int 0))) (eVar 2)) (ρ := [some (dCs cs), some (.str n), some (.str w), some (.int 2), none, none]) (S := S)
    dC Cl.fs dF (fun f => D.bl (decide (f.1 = w))) (l := rowOf cs n) (acc := []) (by simp only [List.length_nil]; omega) (fun c _ => ⟨_, rfl, by simp [fnD, sSeq, sIf, sBind, sRet, sNext, sSet, sExpr, sRaise, e1, e2, eVar, eC, eN, eCall, eAnd, eOr, eNot, eIf, eIsN, eNotN, isNonF, notNonF, eChain, eTup, eLst, eSl, ptF, optI, aCons, aNil, aStar, itemsD, f1, f2, notF, lenF, tupF, lstF, intF, Ress.bind, deref_non, deref_bl, deref_int, deref_str, deref_tup, deref_ctp, deref_lst, deref_dct, deref_dtt, deref_ins, iSeq, iLt, addF, subF, ixF, ixS, isF, tyB, eqF_str, neF_str, eqF_int, neF_int, Res.ofOpt, Res.bind, atI_0, atI_1, eqE_tup, dC, at2_2], fun f _ => ⟨_, rfl, by simp [fnD, sSeq, sIf, sBind, sRet, sNext, sSet, sExpr, sRaise, e1, e2, eVar, eC, eN, eCall, eAnd, eOr, eNot, eIf, eIsN, eNotN, isNonF, notNonF, eChain, eTup, eLst, eSl, ptF, optI, aCons, aNil, aStar, itemsD, f1, f2, notF, lenF, tupF, lstF, intF, Ress.bind, deref_non, deref_bl, deref_int, deref_str, deref_tup, deref_ctp, deref_lst, deref_dct, deref_dtt, deref_ins, iSeq, iLt, addF, subF, ixF, ixS, isF, tyB, eqF_str, neF_str, eqF_int, neF_int, Res.ofOpt, Res.bind, atI_0, atI_1, eqE_tup, dF, wipeD]⟩⟩)
  simp only [f_has_seen, b_has_seen, fnD, sSeq, sIf, sBind, sRet, sNext, sSet, sExpr, sRaise, e1, e2, eVar, eC, eN, eCall, eAnd, eOr, eNot, eIf, eIsN, eNotN, isNonF, notNonF, eChain, eTup, eLst, eSl, ptF, optI, aCons, aNil, aStar, itemsD, f1, f2, notF, lenF, tupF, lstF, intF, Ress.bind, deref_non, deref_bl, deref_int, deref_str, deref_tup, deref_ctp, deref_lst, deref_dct, deref_dtt, deref_ins, iSeq, iLt, addF, subF, ixF, ixS, isF, tyB, eqF_str, neF_str, eqF_int, neF_int, Res.ofOpt, Res.bind, atI_0, atI_1, eqE_tup, eLc2, List.map_cons, List.map_nil, List.length_cons, List.length_nil]
  simp [r, wipeD]
  simp at e
  rw [e]
  have b := bls_map (fun f : Str × Str => decide (f.1 = w)) ((rowOf cs n).flatMap Cl.fs)
  simp [deref_lst, anyF, b, upF, List.any_map]
  rfl
theorem seenM_ok {cs : List Cl} (n w : Str) (S : Sto) (h : Small cs) : f_has_seen [dCs cs, .str n, .str w, .int 3] S = .ok (.bl ((upM cs n).any fun x => decide (x = w))) S := by
  have r := row_ok cs n S (by have := h.1; omega)
  have hl := h.ml n
  have hL : 32 < LIM := by decide
  have e := lcD2_map (g := gtName 4) (g1 := gtName 5) (fi1 := iSeq (e2 ixF (eVar 4) (eVar 3))) (vs1 := [5]) (fe := e2 eqF (e2 ixF (eVar 5) (eC (.int 0))) (eVar 2)) (ρ := [some (dCs cs), some (.str n), some (.str w), some (.int 3), none, none]) (S := S)
    dC Cl.ms dM (fun f => D.bl (decide (f.w = w))) (l := rowOf cs n) (acc := []) (by simp only [List.length_nil]; omega) (fun c _ => ⟨_, rfl, by simp [fnD, sSeq, sIf, sBind, sRet, sNext, sSet, sExpr, sRaise, e1, e2, eVar, eC, eN, eCall, eAnd, eOr, eNot, eIf, eIsN, eNotN, isNonF, notNonF, eChain, eTup, eLst, eSl, ptF, optI, aCons, aNil, aStar, itemsD, f1, f2, notF, lenF, tupF, lstF, intF, Ress.bind, deref_non, deref_bl, deref_int, deref_str, deref_tup, deref_ctp, deref_lst, deref_dct, deref_dtt, deref_ins, iSeq, iLt, addF, subF, ixF, ixS, isF, tyB, eqF_str, neF_str, eqF_int, neF_int, Res.ofOpt, Res.bind, atI_0, atI_1, eqE_tup, dC, at2_3], fun f _ => ⟨_, rfl, by simp [fnD, sSeq, sIf, sBind, sRet, sNext, sSet, sExpr, sRaise, e1, e2, eVar, eC, eN, eCall, eAnd, eOr, eNot, eIf, eIsN, eNotN, isNonF, notNonF, eChain, eTup, eLst, eSl, ptF, optI, aCons, aNil, aStar, itemsD, f1, f2, notF, lenF, tupF, lstF, intF, Ress.bind, deref_non, deref_bl, deref_int, deref_str, deref_tup, deref_ctp, deref_lst, deref_dct, deref_dtt, deref_ins, iSeq, iLt, addF, subF, ixF, ixS, isF, tyB, eqF_str, neF_str, eqF_int, neF_int, Res.ofOpt, Res.bind, atI_0, atI_1, eqE_tup, dM, wipeD]⟩⟩)
  simp only [f_has_seen, b_has_seen, fnD, sSeq, sIf, sBind, sRet, sNext, sSet, sExpr, sRaise, e1, e2, eVar, eC, eN, eCall, eAnd, eOr, eNot, eIf, eIsN, eNotN, isNonF, notNonF, eChain, eTup, eLst, eSl, ptF, optI, aCons, aNil, aStar, itemsD, f1, f2, notF, lenF, tupF, lstF, intF, Ress.bind, deref_non, deref_bl, deref_int, deref_str, deref_tup, deref_ctp, deref_lst, deref_dct, deref_dtt, deref_ins, iSeq, iLt, addF, subF, ixF, ixS, isF, tyB, eqF_str, neF_str, eqF_int, neF_int, Res.ofOpt, Res.bind, atI_0, atI_1, eqE_tup, eLc2, List.map_cons, List.map_nil, List.length_cons, List.length_nil]
  simp [r, wipeD]
  simp at e
  rw [e]
  have b := bls_map (fun f : Me => decide (f.w = w)) ((rowOf cs n).flatMap Cl.ms)
  simp [deref_lst, anyF, b, upM, List.any_map]
  rfl

/-! ### fields -/
def num : Str := "num"
/-- a kind of a field: a number, or a class -/
def Kind (ns : List Str) (k : Str) : Prop := W k ∧ (k = num ∨ k ∈ ns)
def fBody : SF := (sSeq (sIf (eOr (eNot (e1 (isF tb_tuple to_tuple) (eVar 4))) (eOr (e2 neF (eN (f1 lenF) (aCons (eVar 4) aNil)) (eC (.int 2))) (eOr (eNot (eCall f_is_word (aCons (e2 ixF (eVar 4) (eC (.int 0))) aNil))) (e2 inF (e2 ixF (eVar 4) (eC (.int 0))) (eVar 3))))) (sRet (eC (.bl false))) sNext)
  (sSeq (sIf (eOr (eNot (eCall f_is_word (aCons (e2 ixF (eVar 4) (eC (.int 1))) aNil))) (eAnd (e2 neF (e2 ixF (eVar 4) (eC (.int 1))) (eC (.str ("num" : Str)))) (e2 notInF (e2 ixF (eVar 4) (eC (.int 1))) (eVar 1)))) (sRet (eC (.bl false))) sNext)
  (sApp 3 (e2 ixF (eVar 4) (eC (.int 0))))))
theorem fBody_ok {ns seen : List Str} {f : Str × Str} {x0 x2 x5 : Option D} (S : Sto) (h1 : W f.1) (h2 : Kind ns f.2) (h3 : f.1 ∉ seen) (h4 : seen.length < 1000) :
    fBody [x0, some (.lst (ns.map .str)), x2, some (.lst (seen.map .str)), some (dF f), x5] S = .nx [x0, some (.lst (ns.map .str)), x2, some (.lst ((seen ++ [f.1]).map .str)), some (dF f), x5] S := by
  have t1 : tb_tuple "tuple" = true := by decide +kernel
  have m1 := inF_lst seen f.1
  have m2 := notInF_lst ns f.2
  have hl : seen.length < LIM := lim_le (by omega)
  simp [h3] at m1
  have h2' := h2.1.1 S
  rcases h2.2 with hk | hk
  · have hk' : f.2 = ("num" : Str) := hk
    simp [fBody, fnD, sSeq, sIf, sBind, sRet, sNext, sSet, sExpr, sRaise, e1, e2, eVar, eC, eN, eCall, eAnd, eOr, eNot, eIf, eIsN, eNotN, isNonF, notNonF, eChain, eTup, eLst, eSl, ptF, optI, aCons, aNil, aStar, itemsD, f1, f2, notF, lenF, tupF, lstF, intF, Ress.bind, deref_non, deref_bl, deref_int, deref_str, deref_tup, deref_ctp, deref_lst, deref_dct, deref_dtt, deref_ins, iSeq, iLt, addF, subF, ixF, ixS, isF, tyB, eqF_str, neF_str, eqF_int, neF_int, Res.ofOpt, Res.bind, atI_0, atI_1, eqE_tup, dF, t1, h1.1 S, h2', m1, hk', sApp, hl]
    simp [← hk', h2', hl, atI_0]
  · simp [hk] at m2
    by_cases hq : f.2 = ("num" : Str)
    · simp [fBody, fnD, sSeq, sIf, sBind, sRet, sNext, sSet, sExpr, sRaise, e1, e2, eVar, eC, eN, eCall, eAnd, eOr, eNot, eIf, eIsN, eNotN, isNonF, notNonF, eChain, eTup, eLst, eSl, ptF, optI, aCons, aNil, aStar, itemsD, f1, f2, notF, lenF, tupF, lstF, intF, Ress.bind, deref_non, deref_bl, deref_int, deref_str, deref_tup, deref_ctp, deref_lst, deref_dct, deref_dtt, deref_ins, iSeq, iLt, addF, subF, ixF, ixS, isF, tyB, eqF_str, neF_str, eqF_int, neF_int, Res.ofOpt, Res.bind, atI_0, atI_1, eqE_tup, dF, t1, h1.1 S, h2', m1, hq, sApp, hl]
      simp [← hq, h2', hl, atI_0]
    · simp [fBody, fnD, sSeq, sIf, sBind, sRet, sNext, sSet, sExpr, sRaise, e1, e2, eVar, eC, eN, eCall, eAnd, eOr, eNot, eIf, eIsN, eNotN, isNonF, notNonF, eChain, eTup, eLst, eSl, ptF, optI, aCons, aNil, aStar, itemsD, f1, f2, notF, lenF, tupF, lstF, intF, Ress.bind, deref_non, deref_bl, deref_int, deref_str, deref_tup, deref_ctp, deref_lst, deref_dct, deref_dtt, deref_ins, iSeq, iLt, addF, subF, ixF, ixS, isF, tyB, eqF_str, neF_str, eqF_int, neF_int, Res.ofOpt, Res.bind, atI_0, atI_1, eqE_tup, dF, t1, h1.1 S, h2', m1, m2, hq, sApp, hl]
theorem fLoop {ns : List Str} {x0 x2 x5 : Option D} (S : Sto) : ∀ (l : List (Str × Str)) (seen : List Str) (x4 : Option D), (∀ f ∈ l, W f.1 ∧ Kind ns f.2 ∧ f.1 ∉ seen) → (l.map (·.1)).Nodup → seen.length + l.length ≤ 100 →
    ∃ ρ', forD (gtName 4) fBody (l.map dF) [x0, some (.lst (ns.map .str)), x2, some (.lst (seen.map .str)), x4, x5] S = .nx ρ' S
  | [], seen, x4, _, _, _ => ⟨_, rfl⟩
  | f :: l, seen, x4, h, hn, hl => by
    obtain ⟨a, b, c⟩ := h f List.mem_cons_self
    simp only [List.length_cons] at hl
    simp only [List.map_cons, List.nodup_cons] at hn
    have hb := fBody_ok (ns := ns) (x0 := x0) (x2 := x2) (x5 := x5) S a b c (by omega)
    obtain ⟨ρ', e⟩ := fLoop S l (seen ++ [f.1]) (some (dF f)) (fun g hg => by
      obtain ⟨a', b', c'⟩ := h g (List.mem_cons_of_mem _ hg)
      refine ⟨a', b', fun hm => ?_⟩
      rcases List.mem_append.mp hm with hm | hm
      · exact c' hm
      · simp at hm
        exact hn.1 (hm ▸ List.mem_map_of_mem hg)) hn.2 (by simp; omega)
    refine ⟨ρ', ?_⟩
    simp only [List.map_cons, forD, gtName]
    simp only [List.set_cons_succ, List.set_cons_zero, hb]
    exact e
structure FieldsOk (cs : List Cl) (ns : List Str) (c : Cl) : Prop where
  len : c.fs.length ≤ 4
  ok : ∀ f ∈ c.fs, W f.1 ∧ Kind ns f.2
  new : ∀ f ∈ c.fs, f.1 ∉ upF cs c.u
  dup : (c.fs.map (·.1)).Nodup
theorem fields_ok {cs : List Cl} {ns : List Str} {c : Cl} (S : Sto) (hs : Small cs) (h : FieldsOk cs ns c) : f_are_fields [dCs cs, .lst (ns.map .str), dC c] S = .ok (.bl true) S := by
  have r := row_ok cs c.u S (by have := hs.1; omega)
  have hl := hs.fl c.u
  have hL : 32 < LIM := by decide
  have e := lcD2_map (g := gtName 5) (g1 := gtName 4) (fi1 := iSeq (e2 ixF (eVar 5) (eC (.int 2)))) (vs1 := [4]) (fe := e2 ixF (eVar 4) (eC (.int 0))) (ρ := [some (dCs cs), some (.lst (ns.map .str)), some (dC c), none, none, none]) (S := S)
    dC Cl.fs dF (fun f => D.str f.1) (l := rowOf cs c.u) (acc := []) (by simp only [List.length_nil]; omega) (fun c _ => ⟨_, rfl, by simp [fnD, sSeq, sIf, sBind, sRet, sNext, sSet, sExpr, sRaise, e1, e2, eVar, eC, eN, eCall, eAnd, eOr, eNot, eIf, eIsN, eNotN, isNonF, notNonF, eChain, eTup, eLst, eSl, ptF, optI, aCons, aNil, aStar, itemsD, f1, f2, notF, lenF, tupF, lstF, intF, Ress.bind, deref_non, deref_bl, deref_int, deref_str, deref_tup, deref_ctp, deref_lst, deref_dct, deref_dtt, deref_ins, iSeq, iLt, addF, subF, ixF, ixS, isF, tyB, eqF_str, neF_str, eqF_int, neF_int, Res.ofOpt, Res.bind, atI_0, atI_1, eqE_tup, dC, at2_2], fun f _ => ⟨_, rfl, by simp [fnD, sSeq, sIf, sBind, sRet, sNext, sSet, sExpr, sRaise, e1, e2, eVar, eC, eN, eCall, eAnd, eOr, eNot, eIf, eIsN, eNotN, isNonF, notNonF, eChain, eTup, eLst, eSl, ptF, optI, aCons, aNil, aStar, itemsD, f1, f2, notF, lenF, tupF, lstF, intF, Ress.bind, deref_non, deref_bl, deref_int, deref_str, deref_tup, deref_ctp, deref_lst, deref_dct, deref_dtt, deref_ins, iSeq, iLt, addF, subF, ixF, ixS, isF, tyB, eqF_str, neF_str, eqF_int, neF_int, Res.ofOpt, Res.bind, atI_0, atI_1, eqE_tup, dF, wipeD]⟩⟩)
  have e' : eLc2 [5, 4] [4] (iSeq (eCall f_row_of (aCons (eVar 0) (aCons (e2 ixF (eVar 2) (eC (.int 1))) aNil)))) (gtName 5) eYes (iSeq (e2 ixF (eVar 5) (eC (.int 2)))) (gtName 4) eYes (e2 ixF (eVar 4) (eC (.int 0))) [some (dCs cs), some (.lst (ns.map .str)), some (dC c), none, none, none] S = .ok (.lst ((upF cs c.u).map .str)) S := by
    have hi : iSeq (eCall f_row_of (aCons (eVar 0) (aCons (e2 ixF (eVar 2) (eC (.int 1))) aNil))) [some (dCs cs), some (.lst (ns.map .str)), some (dC c), none, none, none] S = .ok ((rowOf cs c.u).map dC) S := by
      simp [fnD, sSeq, sIf, sBind, sRet, sNext, sSet, sExpr, sRaise, e1, e2, eVar, eC, eN, eCall, eAnd, eOr, eNot, eIf, eIsN, eNotN, isNonF, notNonF, eChain, eTup, eLst, eSl, ptF, optI, aCons, aNil, aStar, itemsD, f1, f2, notF, lenF, tupF, lstF, intF, Ress.bind, deref_non, deref_bl, deref_int, deref_str, deref_tup, deref_ctp, deref_lst, deref_dct, deref_dtt, deref_ins, iSeq, iLt, addF, subF, ixF, ixS, isF, tyB, eqF_str, neF_str, eqF_int, neF_int, Res.ofOpt, Res.bind, atI_0, atI_1, eqE_tup, dC, r]
    unfold eLc2
    rw [hi]
    simp only [wipeD, List.set_cons_succ, List.set_cons_zero]
    simp only [List.nil_append] at e
    rw [e]
    simp [upF]
  obtain ⟨ρ', el⟩ := fLoop (ns := ns) (x0 := some (dCs cs)) (x2 := some (dC c)) (x5 := none) S c.fs (upF cs c.u) none (fun f hf => ⟨(h.ok f hf).1, (h.ok f hf).2, h.new f hf⟩) h.dup (by have := h.len; simp [upF]; simp at hl; omega)
  have il := islist_ok (c.fs.map dF) 4 S
  have hlen : ((c.fs.length : Nat) : Int) ≤ 4 := by have := h.len; omega
  simp [hlen] at il
  have hb : b_are_fields ([some (dCs cs), some (.lst (ns.map .str)), some (dC c)] ++ List.replicate 3 none) S = .rt (.bl true) S := by
    have c1 : (eNot (eCall f_is_list (aCons (e2 ixF (eVar 2) (eC (.int 2))) (aCons (eC (.int 4)) aNil)))) [some (dCs cs), some (.lst (ns.map .str)), some (dC c), none, none, none] S = .ok (.bl false) S := by
      simp [fnD, sSeq, sIf, sBind, sRet, sNext, sSet, sExpr, sRaise, e1, e2, eVar, eC, eN, eCall, eAnd, eOr, eNot, eIf, eIsN, eNotN, isNonF, notNonF, eChain, eTup, eLst, eSl, ptF, optI, aCons, aNil, aStar, itemsD, f1, f2, notF, lenF, tupF, lstF, intF, Ress.bind, deref_non, deref_bl, deref_int, deref_str, deref_tup, deref_ctp, deref_lst, deref_dct, deref_dtt, deref_ins, iSeq, iLt, addF, subF, ixF, ixS, isF, tyB, eqF_str, neF_str, eqF_int, neF_int, Res.ofOpt, Res.bind, atI_0, atI_1, eqE_tup, dC, at2_2, il]
    show (match (sIf (eNot (eCall f_is_list (aCons (e2 ixF (eVar 2) (eC (.int 2))) (aCons (eC (.int 4)) aNil)))) (sRet (eC (.bl false))) sNext) [some (dCs cs), some (.lst (ns.map .str)), some (dC c), none, none, none] S with
      | .nx ρ1 S1 => _
      | r => r) = _
    simp only [sIf, sBind, c1, sNext]
    show (match sSet 3 _ [some (dCs cs), some (.lst (ns.map .str)), some (dC c), none, none, none] S with
      | .nx ρ1 S1 => _
      | r => r) = _
    simp only [sSet, sBind, e', List.set_cons_succ, List.set_cons_zero]
    show (match forD (gtName 4) fBody (c.fs.map dF) [some (dCs cs), some (.lst (ns.map .str)), some (dC c), some (.lst ((upF cs c.u).map .str)), none, none] S with
      | .nx ρ1 S1 => sRet (eC (.bl true)) ρ1 S1
      | r => r) = _
    rw [el]
    rfl
  show (match b_are_fields ([some (dCs cs), some (.lst (ns.map .str)), some (dC c)] ++ List.replicate 3 none) S with
    | .rt d S1 => Res.ok d S1
    | .nx _ S1 => .ok .non S1
    | .exn x _ S1 => .exn x S1
    | _ => .stuck) = _
  rw [hb]
end H

set_option maxHeartbeats 4000000
namespace H
open DL PySem PySem.Spec PyProof.Rows L2
/-! ### statements one by one -/
theorem seq_skip {c : EF} {f rest : SF} {ρ : DEnv} {S S' : Sto} (h : c ρ S = .ok (.bl false) S') : sSeq (sIf c f sNext) rest ρ S = rest ρ S' := by simp [sSeq, sIf, sBind, h, sNext]
theorem seq_set {i : Nat} {f : EF} {rest : SF} {ρ : DEnv} {S S' : Sto} {d : D} (h : f ρ S = .ok d S') : sSeq (sSet i f) rest ρ S = rest (ρ.set i (some d)) S' := by simp [sSeq, sSet, sBind, h]
theorem seq_nx {f rest : SF} {ρ ρ' : DEnv} {S S' : Sto} (h : f ρ S = .nx ρ' S') : sSeq f rest ρ S = rest ρ' S' := by simp [sSeq, h]
theorem seq_rt {f rest : SF} {ρ : DEnv} {S S' : Sto} {d : D} (h : f ρ S = .rt d S') : sSeq f rest ρ S = .rt d S' := by simp [sSeq, h]
theorem seq_take {c : EF} {f g rest : SF} {ρ : DEnv} {S S' S2 : Sto} {d : D} (h : c ρ S = .ok (.bl true) S') (hf : f ρ S' = .rt d S2) : sSeq (sIf c f g) rest ρ S = .rt d S2 := by simp [sSeq, sIf, sBind, h, hf]
theorem if_t {c : EF} {f g : SF} {ρ : DEnv} {S S' : Sto} (h : c ρ S = .ok (.bl true) S') : sIf c f g ρ S = f ρ S' := by simp [sIf, sBind, h]
theorem if_f {c : EF} {f g : SF} {ρ : DEnv} {S S' : Sto} (h : c ρ S = .ok (.bl false) S') : sIf c f g ρ S = g ρ S' := by simp [sIf, sBind, h]
theorem ret_ok {f : EF} {ρ : DEnv} {S S' : Sto} {d : D} (h : f ρ S = .ok d S') : sRet f ρ S = .rt d S' := by simp [sRet, sBind, h]
theorem set_ok {i : Nat} {f : EF} {ρ : DEnv} {S S' : Sto} {d : D} (h : f ρ S = .ok d S') : sSet i f ρ S = .nx (ρ.set i (some d)) S' := by simp [sSet, sBind, h]
theorem expr_ok {f : EF} {ρ : DEnv} {S S' : Sto} {d : D} (h : f ρ S = .ok d S') : sExpr f ρ S = .nx ρ S' := by simp [sExpr, sBind, h]
theorem for_ok {fi : IF} {g : GF} {body : SF} {ρ ρ' : DEnv} {S S1 S' : Sto} {xs : List D} (h : fi ρ S = .ok xs S1) (h2 : forD g body xs ρ S1 = .nx ρ' S') : sFor fi g body ρ S = .nx ρ' S' := by simp [sFor, h, h2]
theorem fn_rt {n : Nat} {fb : SF} {ds : List D} {S S' : Sto} {d : D} (h : fb (ds.map some ++ List.replicate (n - ds.length) none) S = .rt d S') : fnD n fb ds S = .ok d S' := by simp [fnD, h]
theorem fn_nx {n : Nat} {fb : SF} {ds : List D} {S S' : Sto} {ρ' : DEnv} (h : fb (ds.map some ++ List.replicate (n - ds.length) none) S = .nx ρ' S') : fnD n fb ds S = .ok .non S' := by simp [fnD, h]
/-! ### data equal to itself -/
theorem eqv_refl : ∀ d : PyData, d.canLay0 = true → PyData.eqv d d = true
  | .none, _ => rfl
  | .bool b, _ => by simp [PyData.eqv]
  | .int b, _ => by simp [PyData.eqv]
  | .str b, _ => by simp [PyData.eqv]
  | .tuple ds, h => by
    simp only [PyData.eqv]
    exact all ds (by simpa [PyData.canLay0] using h)
  | .list ds, h => by
    simp only [PyData.eqv]
    exact all ds (by simpa [PyData.canLay0] using h)
  | .dict _, h => by simp [PyData.canLay0] at h
where all : ∀ ds : List PyData, PyData.canLayAll0 ds = true → PyData.eqvAll ds ds = true
  | [], _ => by simp [PyData.eqvAll]
  | d :: ds, h => by
    simp only [PyData.canLayAll0, Bool.and_eq_true] at h
    simp only [PyData.eqvAll, Bool.and_eq_true]
    exact ⟨eqv_refl d h.1, all ds h.2⟩
theorem eqD_refl {d : D} {n : Nat} (h : okD n d = true) : eqD d d = true := by
  simp only [okD, Bool.and_eq_true] at h
  exact eqv_refl _ h.2.1
theorem neF_refl {d : D} {n : Nat} (h : okD n d = true) (hn : n ≤ 64) : neF d d = some (.bl false) := by
  have := okD_sh h hn
  simp [neF, this, eqD_refl h]

/-! ### methods -/
theorem kindin_ok {ns : List Str} {k : Str} (S : Sto) (h : Kind ns k) : f_is_kind_in [.lst (ns.map .str), .str k] S = .ok (.bl true) S := by
  have m := inF_lst ns k
  by_cases hk : k = ("num" : Str)
  · have h1 := h.1.1 S
    subst hk
    simp [f_is_kind_in, b_is_kind_in, fnD, sSeq, sIf, sBind, sRet, sNext, sSet, sExpr, sRaise, e1, e2, eVar, eC, eN, eCall, eAnd, eOr, eNot, eIf, eIsN, eNotN, isNonF, notNonF, eChain, eTup, eLst, eSl, ptF, optI, aCons, aNil, aStar, itemsD, f1, f2, notF, lenF, tupF, lstF, intF, Ress.bind, deref_non, deref_bl, deref_int, deref_str, deref_tup, deref_ctp, deref_lst, deref_dct, deref_dtt, deref_ins, iSeq, iLt, addF, subF, ixF, ixS, isF, tyB, eqF_str, neF_str, eqF_int, neF_int, Res.ofOpt, Res.bind, atI_0, atI_1, eqE_tup, h1]
  · rcases h.2 with h2 | h2
    · exact absurd h2 hk
    · simp [h2] at m
      simp [f_is_kind_in, b_is_kind_in, fnD, sSeq, sIf, sBind, sRet, sNext, sSet, sExpr, sRaise, e1, e2, eVar, eC, eN, eCall, eAnd, eOr, eNot, eIf, eIsN, eNotN, isNonF, notNonF, eChain, eTup, eLst, eSl, ptF, optI, aCons, aNil, aStar, itemsD, f1, f2, notF, lenF, tupF, lstF, intF, Ress.bind, deref_non, deref_bl, deref_int, deref_str, deref_tup, deref_ctp, deref_lst, deref_dct, deref_dtt, deref_ins, iSeq, iLt, addF, subF, ixF, ixS, isF, tyB, eqF_str, neF_str, eqF_int, neF_int, Res.ofOpt, Res.bind, atI_0, atI_1, eqE_tup, h.1.1 S, hk, m]
structure MethOk (cs : List Cl) (ns : List Str) (c : Cl) (i : Nat) (m : Me) : Prop where
  w : W m.w
  new : m.w ∉ (c.ms.take i).map Me.w
  len : m.ins.length ≤ 3
  ins : ∀ k ∈ m.ins, Kind ns k
  out : Kind ns m.out
  same : ∀ u ∈ rowOf cs c.u, ∀ m' ∈ u.ms, m'.w = m.w → m'.ins = m.ins ∧ m'.out = m.out
theorem cut_take (ds : List D) (i : Nat) (h : i ≤ ds.length) : DL.cutD ds none (some (i : Int)) = ds.take i := by
  unfold DL.cutD
  have e : HT.sIx ds.length ds.length (some (i : Int)) = i := by rw [HT.sIx_nat]; omega
  have e0 : HT.sIx ds.length 0 none = 0 := rfl
  rw [e, e0]
  simp
def sgn (m : Me) : D := .tup [.tup (m.ins.map .str), .str m.out]
theorem sgn_ok {ns : List Str} {m : Me} (h1 : ∀ k ∈ m.ins, Kind ns k) (h2 : Kind ns m.out) : okD 2 (sgn m) = true := by
  unfold sgn
  refine okD_tup fun d hd => ?_
  simp only [List.mem_cons, List.not_mem_nil, or_false] at hd
  rcases hd with rfl | rfl
  · refine okD_tup fun d hd => ?_
    obtain ⟨k, hk, rfl⟩ := List.mem_map.mp hd
    exact (h1 k hk).1.ok
  · exact okD_mono h2.1.ok (by decide)
def mIf : SF := (sIf (eAnd (e2 eqF (e2 ixF (eVar 6) (eC (.int 0))) (e2 ixF (eVar 4) (eC (.int 0)))) (e2 neF (eSl slF (eVar 6) (e1 ptF (eC (.int 1))) (e1 ptF (eC (.int 3)))) (eSl slF (eVar 4) (e1 ptF (eC (.int 1))) (e1 ptF (eC (.int 3)))))) (sRet (eC (.bl false))) sNext)
theorem cut_sgn (m : Me) : slF (dM m) (some 1) (some 3) = some (sgn m) := rfl
theorem mIf_ok {m m' : Me} {x0 x1 x2 x3 x5 x7 : Option D} (S : Sto) (hs : okD 2 (sgn m) = true) (h : m'.w = m.w → m'.ins = m.ins ∧ m'.out = m.out) :
    mIf [x0, x1, x2, x3, some (dM m), x5, some (dM m'), x7] S = .nx [x0, x1, x2, x3, some (dM m), x5, some (dM m'), x7] S := by
  have c1 := cut_sgn m
  have c2 := cut_sgn m'
  by_cases hw : m'.w = m.w
  · obtain ⟨a, b⟩ := h hw
    have e : sgn m' = sgn m := by unfold sgn; rw [a, b]
    have n := neF_refl hs (by decide)
    have c : (eAnd (e2 eqF (e2 ixF (eVar 6) (eC (.int 0))) (e2 ixF (eVar 4) (eC (.int 0)))) (e2 neF (eSl slF (eVar 6) (e1 ptF (eC (.int 1))) (e1 ptF (eC (.int 3)))) (eSl slF (eVar 4) (e1 ptF (eC (.int 1))) (e1 ptF (eC (.int 3)))))) [x0, x1, x2, x3, some (dM m), x5, some (dM m'), x7] S = .ok (.bl false) S := by
      have q : (e2 eqF (e2 ixF (eVar 6) (eC (.int 0))) (e2 ixF (eVar 4) (eC (.int 0)))) [x0, x1, x2, x3, some (dM m), x5, some (dM m'), x7] S = .ok (.bl true) S := by
        simp [fnD, sSeq, sIf, sBind, sRet, sNext, sSet, sExpr, sRaise, e1, e2, eVar, eC, eN, eCall, eAnd, eOr, eNot, eIf, eIsN, eNotN, isNonF, notNonF, eChain, eTup, eLst, eSl, ptF, optI, aCons, aNil, aStar, itemsD, f1, f2, notF, lenF, tupF, lstF, intF, Ress.bind, deref_non, deref_bl, deref_int, deref_str, deref_tup, deref_ctp, deref_lst, deref_dct, deref_dtt, deref_ins, iSeq, iLt, addF, subF, ixF, ixS, isF, tyB, eqF_str, neF_str, eqF_int, neF_int, Res.ofOpt, Res.bind, atI_0, atI_1, eqE_tup, dM, hw]
      have d1 : deref S (dM m) = dM m := rfl
      have d2 : deref S (dM m') = dM m' := rfl
      have d3 : deref S (sgn m) = sgn m := rfl
      simp only [eAnd, q, Res.bind]
      simp [e2, eSl, eVar, e1, eC, ptF, optI, Res.bind, Res.ofOpt, d1, d2, d3, c1, c2, e, n, deref_int]
    exact if_f c
  · exact if_f (by simp [fnD, sSeq, sIf, sBind, sRet, sNext, sSet, sExpr, sRaise, e1, e2, eVar, eC, eN, eCall, eAnd, eOr, eNot, eIf, eIsN, eNotN, isNonF, notNonF, eChain, eTup, eLst, eSl, ptF, optI, aCons, aNil, aStar, itemsD, f1, f2, notF, lenF, tupF, lstF, intF, Ress.bind, deref_non, deref_bl, deref_int, deref_str, deref_tup, deref_ctp, deref_lst, deref_dct, deref_dtt, deref_ins, iSeq, iLt, addF, subF, ixF, ixS, isF, tyB, eqF_str, neF_str, eqF_int, neF_int, Res.ofOpt, Res.bind, atI_0, atI_1, eqE_tup, dM, hw])
theorem at5_2 (a b c d e : D) : L2.atI [a, b, c, d, e] 2 = some c := rfl
theorem at5_3 (a b c d e : D) : L2.atI [a, b, c, d, e] 3 = some d := rfl
theorem at5_4 (a b c d e : D) : L2.atI [a, b, c, d, e] 4 = some e := rfl
theorem meth_ok {cs : List Cl} {ns : List Str} {c : Cl} {i : Nat} {m : Me} (S : Sto) (hs : Small cs) (hi : c.ms[i]? = some m) (h : MethOk cs ns c i m) : f_is_method [dCs cs, .lst (ns.map .str), dC c, .int i] S = .ok (.bl true) S := by
  have t1 : tb_tuple "tuple" = true := by decide +kernel
  have hl : i < c.ms.length := (List.getElem?_eq_some_iff.mp hi).1
  have at1 : L2.atI (c.ms.map dM) (i : Int) = some (dM m) := by rw [atI_nat (by simpa using hl), List.getElem?_map, hi]; rfl
  have sk := sgn_ok h.ins h.out
  refine fn_rt ?_
  show b_is_method [some (dCs cs), some (.lst (ns.map .str)), some (dC c), some (.int i), none, none, none, none] S = _
  unfold b_is_method
  refine (seq_set (d := dM m) (S' := S) (by simp [fnD, sSeq, sIf, sBind, sRet, sNext, sSet, sExpr, sRaise, e1, e2, eVar, eC, eN, eCall, eAnd, eOr, eNot, eIf, eIsN, eNotN, isNonF, notNonF, eChain, eTup, eLst, eSl, ptF, optI, aCons, aNil, aStar, itemsD, f1, f2, notF, lenF, tupF, lstF, intF, Ress.bind, deref_non, deref_bl, deref_int, deref_str, deref_tup, deref_ctp, deref_lst, deref_dct, deref_dtt, deref_ins, iSeq, iLt, addF, subF, ixF, ixS, isF, tyB, eqF_str, neF_str, eqF_int, neF_int, Res.ofOpt, Res.bind, atI_0, atI_1, eqE_tup, dC, at2_3, at1])).trans ?_
  simp only [List.set_cons_succ, List.set_cons_zero]
  refine (seq_skip (S' := S) (by simp [fnD, sSeq, sIf, sBind, sRet, sNext, sSet, sExpr, sRaise, e1, e2, eVar, eC, eN, eCall, eAnd, eOr, eNot, eIf, eIsN, eNotN, isNonF, notNonF, eChain, eTup, eLst, eSl, ptF, optI, aCons, aNil, aStar, itemsD, f1, f2, notF, lenF, tupF, lstF, intF, Ress.bind, deref_non, deref_bl, deref_int, deref_str, deref_tup, deref_ctp, deref_lst, deref_dct, deref_dtt, deref_ins, iSeq, iLt, addF, subF, ixF, ixS, isF, tyB, eqF_str, neF_str, eqF_int, neF_int, Res.ofOpt, Res.bind, atI_0, atI_1, eqE_tup, dM, t1, h.w.1 S])).trans ?_
  refine (seq_skip (S' := S) ?_).trans ?_
  · have l1 := lcD_map (g := gtName 6) (fe := e2 ixF (eVar 6) (eC (.int 0))) (ρ := [some (dCs cs), some (.lst (ns.map .str)), some (dC c), some (.int i), some (dM m), none, none, none]) (S := S) dM (fun m => .str m.w) (l := c.ms.take i) (acc := []) (fun c _ => ⟨_, rfl, by simp [fnD, sSeq, sIf, sBind, sRet, sNext, sSet, sExpr, sRaise, e1, e2, eVar, eC, eN, eCall, eAnd, eOr, eNot, eIf, eIsN, eNotN, isNonF, notNonF, eChain, eTup, eLst, eSl, ptF, optI, aCons, aNil, aStar, itemsD, f1, f2, notF, lenF, tupF, lstF, intF, Ress.bind, deref_non, deref_bl, deref_int, deref_str, deref_tup, deref_ctp, deref_lst, deref_dct, deref_dtt, deref_ins, iSeq, iLt, addF, subF, ixF, ixS, isF, tyB, eqF_str, neF_str, eqF_int, neF_int, Res.ofOpt, Res.bind, atI_0, atI_1, eqE_tup, dM]⟩)
    have l2 : DL.cutD (c.ms.map dM) none (some (i : Int)) = (c.ms.take i).map dM := by rw [cut_take _ _ (by simp; omega), List.map_take]
    have m1 := inF_lst ((c.ms.take i).map Me.w) m.w
    have il := islist_ok (m.ins.map .str) 3 S
    have hlen : ((m.ins.length : Nat) : Int) ≤ 3 := by have := h.len; omega
    have m1' : inF (.str m.w) (.lst ((c.ms.take i).map fun m => .str m.w)) = some (.bl false) := by
      rw [List.map_map] at m1
      rw [decide_eq_false h.new] at m1
      exact m1
    have lc : eLc [6] (iSeq (eSl slF (e2 ixF (eVar 2) (eC (.int 3))) (eC .non) (e1 ptF (eVar 3)))) (gtName 6) eYes (e2 ixF (eVar 6) (eC (.int 0))) [some (dCs cs), some (.lst (ns.map .str)), some (dC c), some (.int i), some (dM m), none, none, none] S = .ok (.lst ((c.ms.take i).map fun m => .str m.w)) S := by
      have q : iSeq (eSl slF (e2 ixF (eVar 2) (eC (.int 3))) (eC .non) (e1 ptF (eVar 3))) [some (dCs cs), some (.lst (ns.map .str)), some (dC c), some (.int i), some (dM m), none, none, none] S = .ok ((c.ms.take i).map dM) S := by
        simp [fnD, sSeq, sIf, sBind, sRet, sNext, sSet, sExpr, sRaise, e1, e2, eVar, eC, eN, eCall, eAnd, eOr, eNot, eIf, eIsN, eNotN, isNonF, notNonF, eChain, eTup, eLst, eSl, ptF, optI, aCons, aNil, aStar, itemsD, f1, f2, notF, lenF, tupF, lstF, intF, Ress.bind, deref_non, deref_bl, deref_int, deref_str, deref_tup, deref_ctp, deref_lst, deref_dct, deref_dtt, deref_ins, iSeq, iLt, addF, subF, ixF, ixS, isF, tyB, eqF_str, neF_str, eqF_int, neF_int, Res.ofOpt, Res.bind, atI_0, atI_1, eqE_tup, dC, at2_3, slF, l2]
      simp only [eLc, q, wipeD, List.set_cons_succ, List.set_cons_zero]
      rw [l1]; rfl
    simp only [dM] at lc
    simp only [List.length_map] at il
    rw [List.map_take] at m1'
    simp [fnD, sSeq, sIf, sBind, sRet, sNext, sSet, sExpr, sRaise, e1, e2, eVar, eC, eN, eCall, eAnd, eOr, eNot, eIf, eIsN, eNotN, isNonF, notNonF, eChain, eTup, eLst, eSl, ptF, optI, aCons, aNil, aStar, itemsD, f1, f2, notF, lenF, tupF, lstF, intF, Ress.bind, deref_non, deref_bl, deref_int, deref_str, deref_tup, deref_ctp, deref_lst, deref_dct, deref_dtt, deref_ins, iSeq, iLt, addF, subF, ixF, ixS, isF, tyB, eqF_str, neF_str, eqF_int, neF_int, Res.ofOpt, Res.bind, atI_0, atI_1, eqE_tup, dM, lc, m1', il, hlen]
  refine (seq_skip (S' := S) ?_).trans ?_
  · have l1 := lcD_map (g := gtName 7) (fe := eCall f_is_kind_in (aCons (eVar 1) (aCons (eVar 7) aNil))) (ρ := [some (dCs cs), some (.lst (ns.map .str)), some (dC c), some (.int i), some (dM m), none, none, none]) (S := S) D.str (fun _ => .bl true) (l := m.ins) (acc := []) (fun k hk => ⟨_, rfl, by simp [fnD, sSeq, sIf, sBind, sRet, sNext, sSet, sExpr, sRaise, e1, e2, eVar, eC, eN, eCall, eAnd, eOr, eNot, eIf, eIsN, eNotN, isNonF, notNonF, eChain, eTup, eLst, eSl, ptF, optI, aCons, aNil, aStar, itemsD, f1, f2, notF, lenF, tupF, lstF, intF, Ress.bind, deref_non, deref_bl, deref_int, deref_str, deref_tup, deref_ctp, deref_lst, deref_dct, deref_dtt, deref_ins, iSeq, iLt, addF, subF, ixF, ixS, isF, tyB, eqF_str, neF_str, eqF_int, neF_int, Res.ofOpt, Res.bind, atI_0, atI_1, eqE_tup, kindin_ok S (h.ins k hk)]⟩)
    have q : iSeq (e2 ixF (eVar 4) (eC (.int 1))) [some (dCs cs), some (.lst (ns.map .str)), some (dC c), some (.int i), some (dM m), none, none, none] S = .ok (m.ins.map .str) S := by
      simp [fnD, sSeq, sIf, sBind, sRet, sNext, sSet, sExpr, sRaise, e1, e2, eVar, eC, eN, eCall, eAnd, eOr, eNot, eIf, eIsN, eNotN, isNonF, notNonF, eChain, eTup, eLst, eSl, ptF, optI, aCons, aNil, aStar, itemsD, f1, f2, notF, lenF, tupF, lstF, intF, Ress.bind, deref_non, deref_bl, deref_int, deref_str, deref_tup, deref_ctp, deref_lst, deref_dct, deref_dtt, deref_ins, iSeq, iLt, addF, subF, ixF, ixS, isF, tyB, eqF_str, neF_str, eqF_int, neF_int, Res.ofOpt, Res.bind, atI_0, atI_1, eqE_tup, dM]
    have lc : eLc [7] (iSeq (e2 ixF (eVar 4) (eC (.int 1)))) (gtName 7) eYes (eCall f_is_kind_in (aCons (eVar 1) (aCons (eVar 7) aNil))) [some (dCs cs), some (.lst (ns.map .str)), some (dC c), some (.int i), some (dM m), none, none, none] S = .ok (.lst (m.ins.map fun _ => .bl true)) S := by
      simp only [eLc, q, wipeD, List.set_cons_succ, List.set_cons_zero]
      rw [l1]; rfl
    have b := bls_map (fun _ : Str => true) m.ins
    have ko := kindin_ok S h.out
    simp only [eOr, eNot, eN, aCons, aNil, lc, Ress.bind, Res.bind, List.map_cons, List.map_nil, deref_lst, f1, allF, b]
    have ha : (m.ins.all fun _ => true) = true := by simp [List.all_eq_true]
    simp [fnD, sSeq, sIf, sBind, sRet, sNext, sSet, sExpr, sRaise, e1, e2, eVar, eC, eN, eCall, eAnd, eOr, eNot, eIf, eIsN, eNotN, isNonF, notNonF, eChain, eTup, eLst, eSl, ptF, optI, aCons, aNil, aStar, itemsD, f1, f2, notF, lenF, tupF, lstF, intF, Ress.bind, deref_non, deref_bl, deref_int, deref_str, deref_tup, deref_ctp, deref_lst, deref_dct, deref_dtt, deref_ins, iSeq, iLt, addF, subF, ixF, ixS, isF, tyB, eqF_str, neF_str, eqF_int, neF_int, Res.ofOpt, Res.bind, atI_0, atI_1, eqE_tup, dM, at5_2, ko, ha]
  have r := row_ok cs c.u S (by have := hs.1; omega)
  obtain ⟨ρ', e, hρ⟩ := forD_keep (g := gtName 5) (body := sFor (iSeq (e2 ixF (eVar 5) (eC (.int 3)))) (gtName 6) mIf) (S := S) (fun ρ => ∃ x5 x6, ρ = [some (dCs cs), some (.lst (ns.map .str)), some (dC c), some (.int i), some (dM m), x5, x6, none]) (xs := (rowOf cs c.u).map dC) (ρ := [some (dCs cs), some (.lst (ns.map .str)), some (dC c), some (.int i), some (dM m), none, none, none]) ⟨none, none, rfl⟩ (by
    rintro x ρ hx ⟨x5, x6, rfl⟩
    obtain ⟨u, hu, rfl⟩ := List.mem_map.mp hx
    obtain ⟨ρ', e, x6', rfl⟩ := forD_keep (g := gtName 6) (body := mIf) (S := S) (fun ρ => ∃ x6, ρ = [some (dCs cs), some (.lst (ns.map .str)), some (dC c), some (.int i), some (dM m), some (dC u), x6, none]) (xs := u.ms.map dM) (ρ := [some (dCs cs), some (.lst (ns.map .str)), some (dC c), some (.int i), some (dM m), some (dC u), x6, none]) ⟨x6, rfl⟩ (by
      rintro y ρ hy ⟨x6, rfl⟩
      obtain ⟨m', hm', rfl⟩ := List.mem_map.mp hy
      exact ⟨_, _, rfl, mIf_ok S sk (h.same u hu m' hm'), _, rfl⟩)
    refine ⟨_, _, rfl, for_ok (S1 := S) (xs := u.ms.map dM) (by simp [fnD, sSeq, sIf, sBind, sRet, sNext, sSet, sExpr, sRaise, e1, e2, eVar, eC, eN, eCall, eAnd, eOr, eNot, eIf, eIsN, eNotN, isNonF, notNonF, eChain, eTup, eLst, eSl, ptF, optI, aCons, aNil, aStar, itemsD, f1, f2, notF, lenF, tupF, lstF, intF, Ress.bind, deref_non, deref_bl, deref_int, deref_str, deref_tup, deref_ctp, deref_lst, deref_dct, deref_dtt, deref_ins, iSeq, iLt, addF, subF, ixF, ixS, isF, tyB, eqF_str, neF_str, eqF_int, neF_int, Res.ofOpt, Res.bind, atI_0, atI_1, eqE_tup, dC, at2_3]) e, _, _, rfl⟩)
  refine (seq_nx (for_ok (S1 := S) (xs := (rowOf cs c.u).map dC) (by simp [fnD, sSeq, sIf, sBind, sRet, sNext, sSet, sExpr, sRaise, e1, e2, eVar, eC, eN, eCall, eAnd, eOr, eNot, eIf, eIsN, eNotN, isNonF, notNonF, eChain, eTup, eLst, eSl, ptF, optI, aCons, aNil, aStar, itemsD, f1, f2, notF, lenF, tupF, lstF, intF, Ress.bind, deref_non, deref_bl, deref_int, deref_str, deref_tup, deref_ctp, deref_lst, deref_dct, deref_dtt, deref_ins, iSeq, iLt, addF, subF, ixF, ixS, isF, tyB, eqF_str, neF_str, eqF_int, neF_int, Res.ofOpt, Res.bind, atI_0, atI_1, eqE_tup, dC, r]) e)).trans ?_
  rfl
end H

set_option maxHeartbeats 4000000
namespace H
open DL PySem PySem.Spec PyProof.Rows L2
/-! ### steps -/
def bareW : List Str := ["none", "add", "less", "same", "give", "throw", "enter", "leave", "copy", "drop", "print"]
def ends : List Str := ["give", "go", "throw"]
inductive StepOk (nms : List Str) (uf um : Str → List Str) (size : Nat) : List D → Prop
  | bare (w : Str) (h : w ∈ bareW) : StepOk nms uf um size [.str w]
  | push (v : Int) (h0 : 0 ≤ v) (h1 : v ≤ 15) : StepOk nms uf um size [.str ("push" : Str), .int v]
  | take (v : Int) (h0 : 0 ≤ v) (h1 : v ≤ 3) : StepOk nms uf um size [.str ("take" : Str), .int v]
  | keep (v : Int) (h0 : 0 ≤ v) (h1 : v ≤ 3) : StepOk nms uf um size [.str ("keep" : Str), .int v]
  | go (v : Int) (h0 : 0 ≤ v) (h1 : v ≤ (size : Int) - 1) : StepOk nms uf um size [.str ("go" : Str), .int v]
  | iff (v : Int) (h0 : 0 ≤ v) (h1 : v ≤ (size : Int) - 1) : StepOk nms uf um size [.str ("if" : Str), .int v]
  | cls (w : Str) (h : w ∈ (["new", "cast", "is"] : List Str)) (n : Str) (hn : W n) (hm : n ∈ nms) : StepOk nms uf um size [.str w, .str n]
  | fld (w : Str) (h : w ∈ (["get", "put"] : List Str)) (n f : Str) (hn : W n) (hf : W f) (hm : f ∈ uf n) : StepOk nms uf um size [.str w, .str n, .str f]
  | call (n m : Str) (hn : W n) (hf : W m) (hm : m ∈ um n) : StepOk nms uf um size [.str ("call" : Str), .str n, .str m]
abbrev StepC (cs : List Cl) (size : Nat) (xs : List D) : Prop := StepOk (names cs) (upF cs) (upM cs) size xs
theorem bare_ok : ∀ w ∈ bareW, okD 0 (.str w) = true := by decide +kernel
theorem words_ok : ∀ w ∈ (["push", "take", "keep", "go", "if", "new", "cast", "is", "get", "put", "call"] : List Str), okD 0 (.str w) = true := by decide +kernel
theorem StepOk.okD {nms : List Str} {uf um : Str → List Str} {size : Nat} {xs : List D} (h : StepOk nms uf um size xs) : okD 1 (.tup xs) = true := by
  refine okD_tup fun d hd => ?_
  cases h <;> simp only [List.mem_cons, List.not_mem_nil, or_false] at hd
  case bare w h => subst hd; exact bare_ok w h
  case cls w h n hn hm =>
    rcases hd with rfl | rfl
    · exact words_ok w (by simp only [List.mem_cons, List.not_mem_nil, or_false] at h ⊢; rcases h with rfl | rfl | rfl <;> simp)
    · exact hn.ok
  case fld w h n f hn hf hm =>
    rcases hd with rfl | rfl | rfl
    · exact words_ok w (by simp only [List.mem_cons, List.not_mem_nil, or_false] at h ⊢; rcases h with rfl | rfl <;> simp)
    · exact hn.ok
    · exact hf.ok
  case call n m hn hf hm =>
    rcases hd with rfl | rfl | rfl
    · exact words_ok _ (by simp)
    · exact hn.ok
    · exact hf.ok
  all_goals
    rcases hd with rfl | rfl
    · exact words_ok _ (by simp)
    · exact okD_int _
theorem StepOk.head {nms : List Str} {uf um : Str → List Str} {size : Nat} {xs : List D} (h : StepOk nms uf um size xs) : ∃ w r, xs = .str w :: r := by cases h <;> exact ⟨_, _, rfl⟩
def tail1 : SF := (sSeq (sIf (e2 eqF (eN (f1 lenF) (aCons (eVar 3) aNil)) (eC (.int 1))) (sRet (e2 inF (e2 ixF (eVar 3) (eC (.int 0))) (eC (.ctp [.str ("none" : Str), .str ("add" : Str), .str ("less" : Str), .str ("same" : Str), .str ("give" : Str), .str ("throw" : Str), .str ("enter" : Str), .str ("leave" : Str), .str ("copy" : Str), .str ("drop" : Str), .str ("print" : Str)])))) sNext)
  (sSeq (sIf (e2 eqF (eN (f1 lenF) (aCons (eVar 3) aNil)) (eC (.int 2))) (sSeq (sSet 4 (eDisp (((eC (.str ("push" : Str))), (eC (.int 15))) :: (((eC (.str ("take" : Str))), (e2 subF (eC (.int 4)) (eC (.int 1)))) :: (((eC (.str ("keep" : Str))), (e2 subF (eC (.int 4)) (eC (.int 1)))) :: (((eC (.str ("go" : Str))), (e2 subF (eN (f1 lenF) (aCons (eVar 1) aNil)) (eC (.int 1)))) :: (((eC (.str ("if" : Str))), (e2 subF (eN (f1 lenF) (aCons (eVar 1) aNil)) (eC (.int 1)))) :: [])))))))
  (sSeq (sIf (e2 inF (e2 ixF (eVar 3) (eC (.int 0))) (eVar 4)) (sRet (eCall f_is_in (aCons (e2 ixF (eVar 3) (eC (.int 1))) (aCons (eC (.int 0)) (aCons (e2 ixF (eVar 4) (e2 ixF (eVar 3) (eC (.int 0)))) aNil))))) sNext)
  (sRet (eAnd (e2 inF (e2 ixF (eVar 3) (eC (.int 0))) (eTup (aCons (eC (.str ("new" : Str))) (aCons (eC (.str ("cast" : Str))) (aCons (eC (.str ("is" : Str))) aNil))))) (eAnd (eCall f_is_word (aCons (e2 ixF (eVar 3) (eC (.int 1))) aNil)) (e2 inF (e2 ixF (eVar 3) (eC (.int 1))) (eCall f_names_of (aCons (eVar 0) aNil)))))))) sNext)
  (sSeq (sIf (eOr (e2 neF (eN (f1 lenF) (aCons (eVar 3) aNil)) (eC (.int 3))) (eOr (eNot (eCall f_is_word (aCons (e2 ixF (eVar 3) (eC (.int 1))) aNil))) (eNot (eCall f_is_word (aCons (e2 ixF (eVar 3) (eC (.int 2))) aNil))))) (sRet (eC (.bl false))) sNext)
  (sSeq (sSet 5 (eDisp (((eC (.str ("get" : Str))), (eC (.int 2))) :: (((eC (.str ("put" : Str))), (eC (.int 2))) :: (((eC (.str ("call" : Str))), (eC (.int 3))) :: [])))))
  (sRet (eAnd (e2 inF (e2 ixF (eVar 3) (eC (.int 0))) (eVar 5)) (eCall f_has_seen (aCons (eVar 0) (aCons (e2 ixF (eVar 3) (eC (.int 1))) (aCons (e2 ixF (eVar 3) (eC (.int 2))) (aCons (e2 ixF (eVar 5) (e2 ixF (eVar 3) (eC (.int 0)))) aNil)))))))))))
def dct5 (n : Int) : D := .dct [(.str ("push" : Str), .int 15), (.str ("take" : Str), .int 3), (.str ("keep" : Str), .int 3), (.str ("go" : Str), .int n), (.str ("if" : Str), .int n)]
def disp5 : EF := (eDisp (((eC (.str ("push" : Str))), (eC (.int 15))) :: (((eC (.str ("take" : Str))), (e2 subF (eC (.int 4)) (eC (.int 1)))) :: (((eC (.str ("keep" : Str))), (e2 subF (eC (.int 4)) (eC (.int 1)))) :: (((eC (.str ("go" : Str))), (e2 subF (eN (f1 lenF) (aCons (eVar 1) aNil)) (eC (.int 1)))) :: (((eC (.str ("if" : Str))), (e2 subF (eN (f1 lenF) (aCons (eVar 1) aNil)) (eC (.int 1)))) :: []))))))
theorem disp5_ok (x0 x2 x3 x4 x5 : Option D) (code : List D) (S : Sto) : disp5 [x0, some (.tup code), x2, x3, x4, x5] S = .ok (dct5 ((code.length : Int) - 1)) S := by kernel_rfl
theorem two_int {x0 x2 : Option D} {code : List D} {w : Str} {v b : Int} {S : Sto}
    (h1 : (e2 inF (e2 ixF (eVar 3) (eC (.int 0))) (eVar 4)) [x0, some (.tup code), x2, some (.tup [.str w, .int v]), some (dct5 ((code.length : Int) - 1)), none] S = .ok (.bl true) S)
    (h2 : (aCons (e2 ixF (eVar 3) (eC (.int 1))) (aCons (eC (.int 0)) (aCons (e2 ixF (eVar 4) (e2 ixF (eVar 3) (eC (.int 0)))) aNil))) [x0, some (.tup code), x2, some (.tup [.str w, .int v]), some (dct5 ((code.length : Int) - 1)), none] S = .ok [.int v, .int 0, .int b] S)
    (h3 : 0 ≤ v) (h4 : v ≤ b) : tail1 [x0, some (.tup code), x2, some (.tup [.str w, .int v]), none, none] S = .rt (.bl true) S := by
  unfold tail1
  refine (seq_skip (S' := S) (by simp [fnD, sSeq, sIf, sBind, sRet, sNext, sSet, sExpr, sRaise, e1, e2, eVar, eC, eN, eCall, eAnd, eOr, eNot, eIf, eIsN, eNotN, isNonF, notNonF, eChain, eTup, eLst, eSl, ptF, optI, aCons, aNil, aStar, itemsD, f1, f2, notF, lenF, tupF, lstF, intF, Ress.bind, deref_non, deref_bl, deref_int, deref_str, deref_tup, deref_ctp, deref_lst, deref_dct, deref_dtt, deref_ins, iSeq, iLt, addF, subF, ixF, ixS, isF, tyB, eqF_str, neF_str, eqF_int, neF_int, Res.ofOpt, Res.bind, atI_0, atI_1, eqE_tup])).trans ?_
  refine seq_take (S' := S) (by simp [fnD, sSeq, sIf, sBind, sRet, sNext, sSet, sExpr, sRaise, e1, e2, eVar, eC, eN, eCall, eAnd, eOr, eNot, eIf, eIsN, eNotN, isNonF, notNonF, eChain, eTup, eLst, eSl, ptF, optI, aCons, aNil, aStar, itemsD, f1, f2, notF, lenF, tupF, lstF, intF, Ress.bind, deref_non, deref_bl, deref_int, deref_str, deref_tup, deref_ctp, deref_lst, deref_dct, deref_dtt, deref_ins, iSeq, iLt, addF, subF, ixF, ixS, isF, tyB, eqF_str, neF_str, eqF_int, neF_int, Res.ofOpt, Res.bind, atI_0, atI_1, eqE_tup]) ?_
  refine (seq_set (d := dct5 ((code.length : Int) - 1)) (S' := S) (disp5_ok _ _ _ _ _ code S)).trans ?_
  simp only [List.set_cons_succ, List.set_cons_zero]
  refine seq_take (S' := S) h1 ?_
  refine ret_ok ?_
  unfold eCall
  rw [h2]
  simp only [Ress.bind]
  rw [isin_int]
  simp [h3, h4]
/-- what steps ask of classes -/
structure Seen (C : D) (cs : List Cl) : Prop where
  names : ∀ S, f_names_of [C] S = .ok (.lst ((names cs).map .str)) S
  f : ∀ (n w : Str) (S : Sto), f_has_seen [C, .str n, .str w, .int 2] S = .ok (.bl ((upF cs n).any fun x => decide (x = w))) S
  m : ∀ (n w : Str) (S : Sto), f_has_seen [C, .str n, .str w, .int 3] S = .ok (.bl ((upM cs n).any fun x => decide (x = w))) S
theorem Small.seen {cs : List Cl} (h : Small cs) : Seen (dCs cs) cs := ⟨fun S => names_ok cs S (by have := h.1; omega), fun n w S => seenF_ok n w S h, fun n w S => seenM_ok n w S h⟩
theorem tail1_ok {C : D} {cs : List Cl} {x2 : Option D} {code : List D} {xs : List D} (S : Sto) (hs : Seen C cs) (h : StepC cs code.length xs) : tail1 [some (C), some (.tup code), x2, some (.tup xs), none, none] S = .rt (.bl true) S := by
  cases h with
  | bare w h =>
    have m := inF_ctp bareW w
    simp only [h, decide_true] at m
    refine seq_take (S' := S) (by simp [fnD, sSeq, sIf, sBind, sRet, sNext, sSet, sExpr, sRaise, e1, e2, eVar, eC, eN, eCall, eAnd, eOr, eNot, eIf, eIsN, eNotN, isNonF, notNonF, eChain, eTup, eLst, eSl, ptF, optI, aCons, aNil, aStar, itemsD, f1, f2, notF, lenF, tupF, lstF, intF, Ress.bind, deref_non, deref_bl, deref_int, deref_str, deref_tup, deref_ctp, deref_lst, deref_dct, deref_dtt, deref_ins, iSeq, iLt, addF, subF, ixF, ixS, isF, tyB, eqF_str, neF_str, eqF_int, neF_int, Res.ofOpt, Res.bind, atI_0, atI_1, eqE_tup]) (ret_ok ?_)
    simp [fnD, sSeq, sIf, sBind, sRet, sNext, sSet, sExpr, sRaise, e1, e2, eVar, eC, eN, eCall, eAnd, eOr, eNot, eIf, eIsN, eNotN, isNonF, notNonF, eChain, eTup, eLst, eSl, ptF, optI, aCons, aNil, aStar, itemsD, f1, f2, notF, lenF, tupF, lstF, intF, Ress.bind, deref_non, deref_bl, deref_int, deref_str, deref_tup, deref_ctp, deref_lst, deref_dct, deref_dtt, deref_ins, iSeq, iLt, addF, subF, ixF, ixS, isF, tyB, eqF_str, neF_str, eqF_int, neF_int, Res.ofOpt, Res.bind, atI_0, atI_1, eqE_tup]
    show (match inF (.str w) (.ctp (bareW.map .str)) with | some d => Res.ok d S | none => Res.stuck) = _
    rw [m]
  | push v h0 h1 => exact two_int (b := 15) (by kernel_rfl) (by kernel_rfl) h0 h1
  | take v h0 h1 => exact two_int (b := 3) (by kernel_rfl) (by kernel_rfl) h0 h1
  | keep v h0 h1 => exact two_int (b := 3) (by kernel_rfl) (by kernel_rfl) h0 h1
  | go v h0 h1 => exact two_int (b := (code.length : Int) - 1) (by kernel_rfl) (by kernel_rfl) h0 h1
  | iff v h0 h1 => exact two_int (b := (code.length : Int) - 1) (by kernel_rfl) (by kernel_rfl) h0 h1
  | cls w h n hn hm =>
    have m := inF_lst (names cs) n
    simp only [hm, decide_true] at m
    have nn := hs.names S
    have w1 : (e2 inF (e2 ixF (eVar 3) (eC (.int 0))) (eVar 4)) [some (C), some (.tup code), x2, some (.tup [.str w, .str n]), some (dct5 ((code.length : Int) - 1)), none] S = .ok (.bl false) S := by
      simp only [List.mem_cons, List.not_mem_nil, or_false] at h
      rcases h with rfl | rfl | rfl <;> kernel_rfl
    have w2 : inF (.str w) (.tup [.str ("new" : Str), .str ("cast" : Str), .str ("is" : Str)]) = some (.bl true) := by
      have := inF_tup ["new", "cast", "is"] w
      simp only [h, decide_true] at this
      exact this
    unfold tail1
    refine (seq_skip (S' := S) (by simp [fnD, sSeq, sIf, sBind, sRet, sNext, sSet, sExpr, sRaise, e1, e2, eVar, eC, eN, eCall, eAnd, eOr, eNot, eIf, eIsN, eNotN, isNonF, notNonF, eChain, eTup, eLst, eSl, ptF, optI, aCons, aNil, aStar, itemsD, f1, f2, notF, lenF, tupF, lstF, intF, Ress.bind, deref_non, deref_bl, deref_int, deref_str, deref_tup, deref_ctp, deref_lst, deref_dct, deref_dtt, deref_ins, iSeq, iLt, addF, subF, ixF, ixS, isF, tyB, eqF_str, neF_str, eqF_int, neF_int, Res.ofOpt, Res.bind, atI_0, atI_1, eqE_tup])).trans ?_
    refine seq_take (S' := S) (by simp [fnD, sSeq, sIf, sBind, sRet, sNext, sSet, sExpr, sRaise, e1, e2, eVar, eC, eN, eCall, eAnd, eOr, eNot, eIf, eIsN, eNotN, isNonF, notNonF, eChain, eTup, eLst, eSl, ptF, optI, aCons, aNil, aStar, itemsD, f1, f2, notF, lenF, tupF, lstF, intF, Ress.bind, deref_non, deref_bl, deref_int, deref_str, deref_tup, deref_ctp, deref_lst, deref_dct, deref_dtt, deref_ins, iSeq, iLt, addF, subF, ixF, ixS, isF, tyB, eqF_str, neF_str, eqF_int, neF_int, Res.ofOpt, Res.bind, atI_0, atI_1, eqE_tup]) ?_
    refine (seq_set (d := dct5 ((code.length : Int) - 1)) (S' := S) (disp5_ok _ _ _ _ _ code S)).trans ?_
    simp only [List.set_cons_succ, List.set_cons_zero]
    refine (seq_skip (S' := S) w1).trans ?_
    refine ret_ok ?_
    have l3 : 3 < LIM := by decide
    simp [fnD, sSeq, sIf, sBind, sRet, sNext, sSet, sExpr, sRaise, e1, e2, eVar, eC, eN, eCall, eAnd, eOr, eNot, eIf, eIsN, eNotN, isNonF, notNonF, eChain, eTup, eLst, eSl, ptF, optI, aCons, aNil, aStar, itemsD, f1, f2, notF, lenF, tupF, lstF, intF, Ress.bind, deref_non, deref_bl, deref_int, deref_str, deref_tup, deref_ctp, deref_lst, deref_dct, deref_dtt, deref_ins, iSeq, iLt, addF, subF, ixF, ixS, isF, tyB, eqF_str, neF_str, eqF_int, neF_int, Res.ofOpt, Res.bind, atI_0, atI_1, eqE_tup, l3, w2, hn.1 S, nn, m]
  | fld w h n f hn hf hm =>
    have sn := hs.f n f S
    have any : ((upF cs n).any fun x => decide (x = f)) = true := by simp [List.any_eq_true]; exact hm
    have w1 : (e2 inF (e2 ixF (eVar 3) (eC (.int 0))) (eVar 5)) [some (C), some (.tup code), x2, some (.tup [.str w, .str n, .str f]), none, some (.dct [(.str ("get" : Str), .int 2), (.str ("put" : Str), .int 2), (.str ("call" : Str), .int 3)])] S = .ok (.bl true) S := by
      simp only [List.mem_cons, List.not_mem_nil, or_false] at h
      rcases h with rfl | rfl <;> kernel_rfl
    have w2 : (aCons (eVar 0) (aCons (e2 ixF (eVar 3) (eC (.int 1))) (aCons (e2 ixF (eVar 3) (eC (.int 2))) (aCons (e2 ixF (eVar 5) (e2 ixF (eVar 3) (eC (.int 0)))) aNil)))) [some (C), some (.tup code), x2, some (.tup [.str w, .str n, .str f]), none, some (.dct [(.str ("get" : Str), .int 2), (.str ("put" : Str), .int 2), (.str ("call" : Str), .int 3)])] S = .ok [C, .str n, .str f, .int 2] S := by
      simp only [List.mem_cons, List.not_mem_nil, or_false] at h
      rcases h with rfl | rfl <;> kernel_rfl
    have a2 : L2.atI [D.str w, .str n, .str f] 2 = some (.str f) := rfl
    unfold tail1
    refine (seq_skip (S' := S) (by simp [fnD, sSeq, sIf, sBind, sRet, sNext, sSet, sExpr, sRaise, e1, e2, eVar, eC, eN, eCall, eAnd, eOr, eNot, eIf, eIsN, eNotN, isNonF, notNonF, eChain, eTup, eLst, eSl, ptF, optI, aCons, aNil, aStar, itemsD, f1, f2, notF, lenF, tupF, lstF, intF, Ress.bind, deref_non, deref_bl, deref_int, deref_str, deref_tup, deref_ctp, deref_lst, deref_dct, deref_dtt, deref_ins, iSeq, iLt, addF, subF, ixF, ixS, isF, tyB, eqF_str, neF_str, eqF_int, neF_int, Res.ofOpt, Res.bind, atI_0, atI_1, eqE_tup])).trans ?_
    refine (seq_skip (S' := S) (by simp [fnD, sSeq, sIf, sBind, sRet, sNext, sSet, sExpr, sRaise, e1, e2, eVar, eC, eN, eCall, eAnd, eOr, eNot, eIf, eIsN, eNotN, isNonF, notNonF, eChain, eTup, eLst, eSl, ptF, optI, aCons, aNil, aStar, itemsD, f1, f2, notF, lenF, tupF, lstF, intF, Ress.bind, deref_non, deref_bl, deref_int, deref_str, deref_tup, deref_ctp, deref_lst, deref_dct, deref_dtt, deref_ins, iSeq, iLt, addF, subF, ixF, ixS, isF, tyB, eqF_str, neF_str, eqF_int, neF_int, Res.ofOpt, Res.bind, atI_0, atI_1, eqE_tup])).trans ?_
    refine (seq_skip (S' := S) (by simp [fnD, sSeq, sIf, sBind, sRet, sNext, sSet, sExpr, sRaise, e1, e2, eVar, eC, eN, eCall, eAnd, eOr, eNot, eIf, eIsN, eNotN, isNonF, notNonF, eChain, eTup, eLst, eSl, ptF, optI, aCons, aNil, aStar, itemsD, f1, f2, notF, lenF, tupF, lstF, intF, Ress.bind, deref_non, deref_bl, deref_int, deref_str, deref_tup, deref_ctp, deref_lst, deref_dct, deref_dtt, deref_ins, iSeq, iLt, addF, subF, ixF, ixS, isF, tyB, eqF_str, neF_str, eqF_int, neF_int, Res.ofOpt, Res.bind, atI_0, atI_1, eqE_tup, a2, hn.1 S, hf.1 S])).trans ?_
    refine (seq_set (d := .dct [(.str ("get" : Str), .int 2), (.str ("put" : Str), .int 2), (.str ("call" : Str), .int 3)]) (S' := S) (by kernel_rfl)).trans ?_
    simp only [List.set_cons_succ, List.set_cons_zero]
    refine ret_ok ?_
    simp only [eAnd, w1, Res.bind, eCall, w2, Ress.bind, sn, any]
  | call n f hn hf hm =>
    have sn := hs.m n f S
    have any : ((upM cs n).any fun x => decide (x = f)) = true := by simp [List.any_eq_true]; exact hm
    have w1 : (e2 inF (e2 ixF (eVar 3) (eC (.int 0))) (eVar 5)) [some (C), some (.tup code), x2, some (.tup [.str ("call" : Str), .str n, .str f]), none, some (.dct [(.str ("get" : Str), .int 2), (.str ("put" : Str), .int 2), (.str ("call" : Str), .int 3)])] S = .ok (.bl true) S := by
      kernel_rfl
    have w2 : (aCons (eVar 0) (aCons (e2 ixF (eVar 3) (eC (.int 1))) (aCons (e2 ixF (eVar 3) (eC (.int 2))) (aCons (e2 ixF (eVar 5) (e2 ixF (eVar 3) (eC (.int 0)))) aNil)))) [some (C), some (.tup code), x2, some (.tup [.str ("call" : Str), .str n, .str f]), none, some (.dct [(.str ("get" : Str), .int 2), (.str ("put" : Str), .int 2), (.str ("call" : Str), .int 3)])] S = .ok [C, .str n, .str f, .int 3] S := by
      kernel_rfl
    have a2 : L2.atI [D.str ("call" : Str), .str n, .str f] 2 = some (.str f) := rfl
    unfold tail1
    refine (seq_skip (S' := S) (by simp [fnD, sSeq, sIf, sBind, sRet, sNext, sSet, sExpr, sRaise, e1, e2, eVar, eC, eN, eCall, eAnd, eOr, eNot, eIf, eIsN, eNotN, isNonF, notNonF, eChain, eTup, eLst, eSl, ptF, optI, aCons, aNil, aStar, itemsD, f1, f2, notF, lenF, tupF, lstF, intF, Ress.bind, deref_non, deref_bl, deref_int, deref_str, deref_tup, deref_ctp, deref_lst, deref_dct, deref_dtt, deref_ins, iSeq, iLt, addF, subF, ixF, ixS, isF, tyB, eqF_str, neF_str, eqF_int, neF_int, Res.ofOpt, Res.bind, atI_0, atI_1, eqE_tup])).trans ?_
    refine (seq_skip (S' := S) (by simp [fnD, sSeq, sIf, sBind, sRet, sNext, sSet, sExpr, sRaise, e1, e2, eVar, eC, eN, eCall, eAnd, eOr, eNot, eIf, eIsN, eNotN, isNonF, notNonF, eChain, eTup, eLst, eSl, ptF, optI, aCons, aNil, aStar, itemsD, f1, f2, notF, lenF, tupF, lstF, intF, Ress.bind, deref_non, deref_bl, deref_int, deref_str, deref_tup, deref_ctp, deref_lst, deref_dct, deref_dtt, deref_ins, iSeq, iLt, addF, subF, ixF, ixS, isF, tyB, eqF_str, neF_str, eqF_int, neF_int, Res.ofOpt, Res.bind, atI_0, atI_1, eqE_tup])).trans ?_
    refine (seq_skip (S' := S) (by simp [fnD, sSeq, sIf, sBind, sRet, sNext, sSet, sExpr, sRaise, e1, e2, eVar, eC, eN, eCall, eAnd, eOr, eNot, eIf, eIsN, eNotN, isNonF, notNonF, eChain, eTup, eLst, eSl, ptF, optI, aCons, aNil, aStar, itemsD, f1, f2, notF, lenF, tupF, lstF, intF, Ress.bind, deref_non, deref_bl, deref_int, deref_str, deref_tup, deref_ctp, deref_lst, deref_dct, deref_dtt, deref_ins, iSeq, iLt, addF, subF, ixF, ixS, isF, tyB, eqF_str, neF_str, eqF_int, neF_int, Res.ofOpt, Res.bind, atI_0, atI_1, eqE_tup, a2, hn.1 S, hf.1 S])).trans ?_
    refine (seq_set (d := .dct [(.str ("get" : Str), .int 2), (.str ("put" : Str), .int 2), (.str ("call" : Str), .int 3)]) (S' := S) (by kernel_rfl)).trans ?_
    simp only [List.set_cons_succ, List.set_cons_zero]
    refine ret_ok ?_
    simp only [eAnd, w1, Res.bind, eCall, w2, Ress.bind, sn, any]
theorem isstep_ok {C : D} {cs : List Cl} {code xs : List D} {i : Nat} (S : Sto) (hs : Seen C cs) (hc : code[i]? = some (.tup xs)) (h : StepC cs code.length xs) (hlast : i + 1 = code.length → ∃ w r, xs = .str w :: r ∧ w ∈ ends) :
    f_is_step [C, .tup code, .int i] S = .ok (.bl true) S := by
  have t1 : tb_tuple "tuple" = true := by decide +kernel
  have t2 : tb_str "str" = true := by decide +kernel
  have hl : i < code.length := (List.getElem?_eq_some_iff.mp hc).1
  have at1 : L2.atI code (i : Int) = some (.tup xs) := by rw [atI_nat hl, hc]
  have sh : shD (.tup xs) = true := okD_sh h.okD (by decide)
  have sh0 : shD (.tup []) = true := by decide +kernel
  obtain ⟨w, r, rfl⟩ := h.head
  refine fn_rt ?_
  show b_is_step [some (C), some (.tup code), some (.int i), none, none, none] S = _
  unfold b_is_step
  refine (seq_set (d := .tup (.str w :: r)) (S' := S) (by simp [fnD, sSeq, sIf, sBind, sRet, sNext, sSet, sExpr, sRaise, e1, e2, eVar, eC, eN, eCall, eAnd, eOr, eNot, eIf, eIsN, eNotN, isNonF, notNonF, eChain, eTup, eLst, eSl, ptF, optI, aCons, aNil, aStar, itemsD, f1, f2, notF, lenF, tupF, lstF, intF, Ress.bind, deref_non, deref_bl, deref_int, deref_str, deref_tup, deref_ctp, deref_lst, deref_dct, deref_dtt, deref_ins, iSeq, iLt, addF, subF, ixF, ixS, isF, tyB, eqF_str, neF_str, eqF_int, neF_int, Res.ofOpt, Res.bind, atI_0, atI_1, eqE_tup, at1])).trans ?_
  simp only [List.set_cons_succ, List.set_cons_zero]
  refine (seq_skip (S' := S) ?_).trans ?_
  · have l0 : 0 < LIM := by decide
    simp [fnD, sSeq, sIf, sBind, sRet, sNext, sSet, sExpr, sRaise, e1, e2, eVar, eC, eN, eCall, eAnd, eOr, eNot, eIf, eIsN, eNotN, isNonF, notNonF, eChain, eTup, eLst, eSl, ptF, optI, aCons, aNil, aStar, itemsD, f1, f2, notF, lenF, tupF, lstF, intF, Ress.bind, deref_non, deref_bl, deref_int, deref_str, deref_tup, deref_ctp, deref_lst, deref_dct, deref_dtt, deref_ins, iSeq, iLt, addF, subF, ixF, ixS, isF, tyB, eqF_str, neF_str, eqF_int, neF_int, Res.ofOpt, Res.bind, atI_0, atI_1, eqE_tup, t1, t2, eqF, sh, sh0, eqD_nil, l0]
  refine (seq_skip (S' := S) ?_).trans ?_
  · by_cases hq : i + 1 = code.length
    · obtain ⟨w', r', e, hw⟩ := hlast hq
      cases e
      have m : notInF (.str w) (.ctp [.str ("give" : Str), .str ("go" : Str), .str ("throw" : Str)]) = some (.bl false) := by
        have := notInF_ctp ends w
        simp only [hw, decide_true] at this
        exact this
      have hq' : (i : Int) = (code.length : Int) - 1 := by omega
      simp [fnD, sSeq, sIf, sBind, sRet, sNext, sSet, sExpr, sRaise, e1, e2, eVar, eC, eN, eCall, eAnd, eOr, eNot, eIf, eIsN, eNotN, isNonF, notNonF, eChain, eTup, eLst, eSl, ptF, optI, aCons, aNil, aStar, itemsD, f1, f2, notF, lenF, tupF, lstF, intF, Ress.bind, deref_non, deref_bl, deref_int, deref_str, deref_tup, deref_ctp, deref_lst, deref_dct, deref_dtt, deref_ins, iSeq, iLt, addF, subF, ixF, ixS, isF, tyB, eqF_str, neF_str, eqF_int, neF_int, Res.ofOpt, Res.bind, atI_0, atI_1, eqE_tup, hq', m]
    · have hq' : ¬ (i : Int) = (code.length : Int) - 1 := by omega
      simp [fnD, sSeq, sIf, sBind, sRet, sNext, sSet, sExpr, sRaise, e1, e2, eVar, eC, eN, eCall, eAnd, eOr, eNot, eIf, eIsN, eNotN, isNonF, notNonF, eChain, eTup, eLst, eSl, ptF, optI, aCons, aNil, aStar, itemsD, f1, f2, notF, lenF, tupF, lstF, intF, Ress.bind, deref_non, deref_bl, deref_int, deref_str, deref_tup, deref_ctp, deref_lst, deref_dct, deref_dtt, deref_ins, iSeq, iLt, addF, subF, ixF, ixS, isF, tyB, eqF_str, neF_str, eqF_int, neF_int, Res.ofOpt, Res.bind, atI_0, atI_1, eqE_tup, hq']
  exact tail1_ok S hs h
end H

set_option maxHeartbeats 4000000
namespace H
open DL PySem PySem.Spec PyProof.Rows L2
/-! ### handlers -/
inductive HandOk (nms : List Str) (size : Nat) : D → Prop
  | mk (b e : Int) (n : Str) (g : Int) (h0 : 0 ≤ b) (h1 : b ≤ (size : Int) - 1) (h2 : b + 1 ≤ e) (h3 : e ≤ size) (hn : W n) (hm : n ∈ nms) (h4 : 0 ≤ g) (h5 : g ≤ (size : Int) - 1) : HandOk nms size (.tup [.int b, .int e, .str n, .int g])
theorem ishand_ok {C : D} {cs : List Cl} {code : List D} {d : D} (S : Sto) (hs : Seen C cs) (h : HandOk (names cs) code.length d) : f_is_handler [C, .tup code, d] S = .ok (.bl true) S := by
  have t1 : tb_tuple "tuple" = true := by decide +kernel
  cases h with
  | mk b e n g h0 h1 h2 h3 hn hm h4 h5 =>
    have m := notInF_lst (names cs) n
    simp only [hm, decide_true] at m
    have nn := hs.names S
    refine fn_rt ?_
    show b_is_handler [some (C), some (.tup code), some (.tup [.int b, .int e, .str n, .int g])] S = _
    unfold b_is_handler
    refine (seq_skip (S' := S) (by simp [fnD, sSeq, sIf, sBind, sRet, sNext, sSet, sExpr, sRaise, e1, e2, eVar, eC, eN, eCall, eAnd, eOr, eNot, eIf, eIsN, eNotN, isNonF, notNonF, eChain, eTup, eLst, eSl, ptF, optI, aCons, aNil, aStar, itemsD, f1, f2, notF, lenF, tupF, lstF, intF, Ress.bind, deref_non, deref_bl, deref_int, deref_str, deref_tup, deref_ctp, deref_lst, deref_dct, deref_dtt, deref_ins, iSeq, iLt, addF, subF, ixF, ixS, isF, tyB, eqF_str, neF_str, eqF_int, neF_int, Res.ofOpt, Res.bind, atI_0, atI_1, eqE_tup, t1, isin_int, h0, h1])).trans ?_
    refine (seq_skip (S' := S) (by simp [fnD, sSeq, sIf, sBind, sRet, sNext, sSet, sExpr, sRaise, e1, e2, eVar, eC, eN, eCall, eAnd, eOr, eNot, eIf, eIsN, eNotN, isNonF, notNonF, eChain, eTup, eLst, eSl, ptF, optI, aCons, aNil, aStar, itemsD, f1, f2, notF, lenF, tupF, lstF, intF, Ress.bind, deref_non, deref_bl, deref_int, deref_str, deref_tup, deref_ctp, deref_lst, deref_dct, deref_dtt, deref_ins, iSeq, iLt, addF, subF, ixF, ixS, isF, tyB, eqF_str, neF_str, eqF_int, neF_int, Res.ofOpt, Res.bind, atI_0, atI_1, eqE_tup, isin_int, h2, h3, at2_2, hn.1 S, nn, m])).trans ?_
    exact ret_ok (by simp [fnD, sSeq, sIf, sBind, sRet, sNext, sSet, sExpr, sRaise, e1, e2, eVar, eC, eN, eCall, eAnd, eOr, eNot, eIf, eIsN, eNotN, isNonF, notNonF, eChain, eTup, eLst, eSl, ptF, optI, aCons, aNil, aStar, itemsD, f1, f2, notF, lenF, tupF, lstF, intF, Ress.bind, deref_non, deref_bl, deref_int, deref_str, deref_tup, deref_ctp, deref_lst, deref_dct, deref_dtt, deref_ins, iSeq, iLt, addF, subF, ixF, ixS, isF, tyB, eqF_str, neF_str, eqF_int, neF_int, Res.ofOpt, Res.bind, atI_0, atI_1, eqE_tup, at2_3, isin_int, h4, h5])
/-! ### codes -/
structure CodeOk (nms : List Str) (uf um : Str → List Str) (m : Me) : Prop where
  isT : m.cd = .tup m.code
  isH : m.hd = .tup m.hs
  len : m.code.length ≤ 20
  ne : m.code ≠ []
  steps : ∀ d ∈ m.code, ∃ xs, d = .tup xs ∧ StepOk nms uf um m.code.length xs
  last : ∀ xs, m.code[m.code.length - 1]? = some (.tup xs) → ∃ w r, xs = .str w :: r ∧ w ∈ ends
  hlen : m.hs.length ≤ 4
  hands : ∀ d ∈ m.hs, HandOk nms m.code.length d
abbrev CodeC (cs : List Cl) (m : Me) : Prop := CodeOk (names cs) (upF cs) (upM cs) m
theorem enD_mem {k : Nat} {ds : List D} {d : D} (h : d ∈ enD k ds) : ∃ i x, d = .tup [.int i, x] ∧ x ∈ ds := by
  induction ds generalizing k with
  | nil => simp [enD] at h
  | cons a r ih =>
    simp only [enD, List.mem_cons] at h
    rcases h with rfl | h
    · exact ⟨_, _, rfl, List.mem_cons_self⟩
    · obtain ⟨i, x, e, hx⟩ := ih h
      exact ⟨i, x, e, List.mem_cons_of_mem _ hx⟩
theorem code_ok {C : D} {cs : List Cl} {m : Me} {x1 x2 : D} (S : Sto) (hs : Seen C cs) (h : CodeC cs m) : f_check_code [C, x1, x2, dM m] S = .ok .non S := by
  have il := islist_ok m.code 20 S
  have il2 := islist_ok m.hs 4 S
  have hlen : ((m.code.length : Nat) : Int) ≤ 20 := by have := h.len; omega
  have hlen2 : ((m.hs.length : Nat) : Int) ≤ 4 := by have := h.hlen; omega
  simp [hlen] at il
  simp [hlen2] at il2
  have okc : okD 2 (.tup m.code) = true := okD_tup fun d hd => by
    obtain ⟨xs, rfl, hx⟩ := h.steps d hd
    exact hx.okD
  have sh := okD_sh okc (by decide)
  have sh0 : shD (.tup []) = true := by decide +kernel
  have hne : m.code.isEmpty = false := by
    cases hq : m.code with
    | nil => exact absurd hq h.ne
    | cons a r => rfl
  have hn : m.code.length < LIM := lim_le (by have := h.len; omega)
  have hn2 : m.hs.length < LIM := lim_le (by have := h.hlen; omega)
  have l0 : 0 < LIM := by decide
  obtain ⟨ρ1, e1, x5, rfl⟩ := forD_keep (g := gtName 5) (body := (sIf (eNot (eCall f_is_step (aCons (eVar 0) (aCons (eVar 4) (aCons (eVar 5) aNil))))) (sRaise ("BadCode" : Str) [("index" : Str), ("place" : Str), ("step" : Str)] (aCons (eVar 1) (aCons (eVar 2) (aCons (eVar 5) aNil)))) sNext)) (S := S)
    (fun ρ => ∃ x5, ρ = [some (C), some x1, some x2, some (dM m), some (.tup m.code), x5, none, none]) (xs := dInts 0 m.code.length) (ρ := [some (C), some x1, some x2, some (dM m), some (.tup m.code), none, none, none]) ⟨none, rfl⟩ (by
      rintro x ρ hx ⟨x5, rfl⟩
      obtain ⟨i, hi, rfl⟩ : ∃ i : Nat, i < m.code.length ∧ x = .int i := by
        obtain ⟨i, hi⟩ := List.mem_iff_getElem?.mp hx
        have e := dInts_get hi
        exact ⟨i, e.1, by rw [e.2]; simp⟩
      obtain ⟨xs, e, hx'⟩ := h.steps m.code[i] (List.getElem_mem hi)
      have st := isstep_ok (i := i) (code := m.code) (xs := xs) S hs (by rw [List.getElem?_eq_getElem hi, e]) hx' (fun hq => h.last xs (by
        have : m.code.length - 1 = i := by omega
        rw [this, List.getElem?_eq_getElem hi, e]))
      exact ⟨_, _, rfl, if_f (by simp [fnD, sSeq, sIf, sBind, sRet, sNext, sSet, sExpr, sRaise, e1, e2, eVar, eC, eN, eCall, eAnd, eOr, eNot, eIf, eIsN, eNotN, isNonF, notNonF, eChain, eTup, eLst, eSl, ptF, optI, aCons, aNil, aStar, itemsD, f1, f2, notF, lenF, tupF, lstF, intF, Ress.bind, deref_non, deref_bl, deref_int, deref_str, deref_tup, deref_ctp, deref_lst, deref_dct, deref_dtt, deref_ins, iSeq, iLt, addF, subF, ixF, ixS, isF, tyB, eqF_str, neF_str, eqF_int, neF_int, Res.ofOpt, Res.bind, atI_0, atI_1, eqE_tup, st]), _, rfl⟩)
  obtain ⟨ρ2, e2', x6, x7, rfl⟩ := forD_keep (g := (gtTup (gtCons (gtName 6) (gtCons (gtName 7) gtNil)))) (body := (sIf (eNot (eCall f_is_handler (aCons (eVar 0) (aCons (eVar 4) (aCons (eVar 7) aNil))))) (sRaise ("BadHandlers" : Str) [("index" : Str), ("place" : Str), ("row" : Str)] (aCons (eVar 1) (aCons (eVar 2) (aCons (eVar 6) aNil)))) sNext)) (S := S)
    (fun ρ => ∃ x6 x7, ρ = [some (C), some x1, some x2, some (dM m), some (.tup m.code), x5, x6, x7]) (xs := enD 0 m.hs) (ρ := [some (C), some x1, some x2, some (dM m), some (.tup m.code), x5, none, none]) ⟨none, none, rfl⟩ (by
      rintro x ρ hx ⟨x6, x7, rfl⟩
      obtain ⟨i, d, rfl, hd⟩ := enD_mem hx
      exact ⟨_, _, rfl, if_f (by simp [fnD, sSeq, sIf, sBind, sRet, sNext, sSet, sExpr, sRaise, e1, e2, eVar, eC, eN, eCall, eAnd, eOr, eNot, eIf, eIsN, eNotN, isNonF, notNonF, eChain, eTup, eLst, eSl, ptF, optI, aCons, aNil, aStar, itemsD, f1, f2, notF, lenF, tupF, lstF, intF, Ress.bind, deref_non, deref_bl, deref_int, deref_str, deref_tup, deref_ctp, deref_lst, deref_dct, deref_dtt, deref_ins, iSeq, iLt, addF, subF, ixF, ixS, isF, tyB, eqF_str, neF_str, eqF_int, neF_int, Res.ofOpt, Res.bind, atI_0, atI_1, eqE_tup, ishand_ok S hs (h.hands d hd)]), _, _, rfl⟩)
  refine fn_nx (ρ' := [some (C), some x1, some x2, some (dM m), some (.tup m.code), x5, x6, x7]) ?_
  show b_check_code [some (C), some x1, some x2, some (dM m), none, none, none, none] S = _
  unfold b_check_code
  refine (seq_set (d := .tup m.code) (S' := S) (by simp [fnD, sSeq, sIf, sBind, sRet, sNext, sSet, sExpr, sRaise, e1, e2, eVar, eC, eN, eCall, eAnd, eOr, eNot, eIf, eIsN, eNotN, isNonF, notNonF, eChain, eTup, eLst, eSl, ptF, optI, aCons, aNil, aStar, itemsD, f1, f2, notF, lenF, tupF, lstF, intF, Ress.bind, deref_non, deref_bl, deref_int, deref_str, deref_tup, deref_ctp, deref_lst, deref_dct, deref_dtt, deref_ins, iSeq, iLt, addF, subF, ixF, ixS, isF, tyB, eqF_str, neF_str, eqF_int, neF_int, Res.ofOpt, Res.bind, atI_0, atI_1, eqE_tup, dM, at5_3, h.isT])).trans ?_
  simp only [List.set_cons_succ, List.set_cons_zero]
  refine (seq_skip (S' := S) (by simp [fnD, sSeq, sIf, sBind, sRet, sNext, sSet, sExpr, sRaise, e1, e2, eVar, eC, eN, eCall, eAnd, eOr, eNot, eIf, eIsN, eNotN, isNonF, notNonF, eChain, eTup, eLst, eSl, ptF, optI, aCons, aNil, aStar, itemsD, f1, f2, notF, lenF, tupF, lstF, intF, Ress.bind, deref_non, deref_bl, deref_int, deref_str, deref_tup, deref_ctp, deref_lst, deref_dct, deref_dtt, deref_ins, iSeq, iLt, addF, subF, ixF, ixS, isF, tyB, eqF_str, neF_str, eqF_int, neF_int, Res.ofOpt, Res.bind, atI_0, atI_1, eqE_tup, il, eqF, sh, sh0, eqD_nil, hne, l0])).trans ?_
  refine (seq_nx (for_ok (S1 := S) (xs := dInts 0 m.code.length) (by simp [iRange1, fnD, sSeq, sIf, sBind, sRet, sNext, sSet, sExpr, sRaise, e1, e2, eVar, eC, eN, eCall, eAnd, eOr, eNot, eIf, eIsN, eNotN, isNonF, notNonF, eChain, eTup, eLst, eSl, ptF, optI, aCons, aNil, aStar, itemsD, f1, f2, notF, lenF, tupF, lstF, intF, Ress.bind, deref_non, deref_bl, deref_int, deref_str, deref_tup, deref_ctp, deref_lst, deref_dct, deref_dtt, deref_ins, iSeq, iLt, addF, subF, ixF, ixS, isF, tyB, eqF_str, neF_str, eqF_int, neF_int, Res.ofOpt, Res.bind, atI_0, atI_1, eqE_tup, hn]) e1)).trans ?_
  refine (seq_skip (S' := S) (by simp [fnD, sSeq, sIf, sBind, sRet, sNext, sSet, sExpr, sRaise, e1, e2, eVar, eC, eN, eCall, eAnd, eOr, eNot, eIf, eIsN, eNotN, isNonF, notNonF, eChain, eTup, eLst, eSl, ptF, optI, aCons, aNil, aStar, itemsD, f1, f2, notF, lenF, tupF, lstF, intF, Ress.bind, deref_non, deref_bl, deref_int, deref_str, deref_tup, deref_ctp, deref_lst, deref_dct, deref_dtt, deref_ins, iSeq, iLt, addF, subF, ixF, ixS, isF, tyB, eqF_str, neF_str, eqF_int, neF_int, Res.ofOpt, Res.bind, atI_0, atI_1, eqE_tup, dM, at5_4, h.isH, il2])).trans ?_
  exact for_ok (S1 := S) (xs := enD 0 m.hs) (by simp [iEn, fnD, sSeq, sIf, sBind, sRet, sNext, sSet, sExpr, sRaise, e1, e2, eVar, eC, eN, eCall, eAnd, eOr, eNot, eIf, eIsN, eNotN, isNonF, notNonF, eChain, eTup, eLst, eSl, ptF, optI, aCons, aNil, aStar, itemsD, f1, f2, notF, lenF, tupF, lstF, intF, Ress.bind, deref_non, deref_bl, deref_int, deref_str, deref_tup, deref_ctp, deref_lst, deref_dct, deref_dtt, deref_ins, iSeq, iLt, addF, subF, ixF, ixS, isF, tyB, eqF_str, neF_str, eqF_int, neF_int, Res.ofOpt, Res.bind, atI_0, atI_1, eqE_tup, dM, at5_4, h.isH, hn2]) e2'
/-! ### houses -/
structure ClassOk (cs : List Cl) (i : Nat) (c : Cl) : Prop where
  w : W c.n
  bar : c.n ∉ barred
  new : c.n ∉ names (cs.take i)
  u : W c.u
  up : c.u ∈ names (cs.take i)
  fs : FieldsOk (cs.take i) (names cs) c
  ml : c.ms.length ≤ 4
  ms : ∀ j m, c.ms[j]? = some m → MethOk (cs.take i) (names cs) c j m
  code : ∀ m ∈ c.ms, CodeC cs m
structure HouseOk (cs : List Cl) : Prop where
  len : cs.length ≤ 8
  ne : cs ≠ []
  cl : ∀ i c, cs[i]? = some c → ClassOk cs i c
theorem HouseOk.small {cs : List Cl} (h : HouseOk cs) : Small cs := ⟨h.len, fun c hc => by
  obtain ⟨i, hi⟩ := List.mem_iff_getElem?.mp hc
  exact ⟨(h.cl i c hi).fs.len, (h.cl i c hi).ml⟩⟩
theorem Small.take {cs : List Cl} (h : Small cs) (i : Nat) : Small (cs.take i) := ⟨by have := h.1; simp; omega, fun c hc => h.2 c (List.mem_of_mem_take hc)⟩
theorem cut_cs (cs : List Cl) (i : Nat) (h : i ≤ cs.length) : slF (dCs cs) none (some (i : Int)) = some (dCs (cs.take i)) := by
  have := cut_take (cs.map dC) i (by simpa using h)
  simp only [slF, dCs, this, List.map_take]
theorem enD_cl {cs : List Cl} {x : D} (h : x ∈ enD 0 (cs.map dC)) : ∃ (i : Nat) (c : Cl), cs[i]? = some c ∧ x = .tup [.int i, dC c] := by
  obtain ⟨i, hi⟩ := List.mem_iff_getElem?.mp h
  rw [enD_get, List.getElem?_map] at hi
  cases hc : cs[i]? with
  | none => rw [hc] at hi; cases hi
  | some c =>
    rw [hc] at hi
    refine ⟨i, c, hc, ?_⟩
    simp at hi
    exact hi.symm
theorem enD_me {c : Cl} {x : D} (h : x ∈ enD 0 (c.ms.map dM)) : ∃ (i : Nat) (m : Me), c.ms[i]? = some m ∧ x = .tup [.int i, dM m] := by
  obtain ⟨i, hi⟩ := List.mem_iff_getElem?.mp h
  rw [enD_get, List.getElem?_map] at hi
  cases hc : c.ms[i]? with
  | none => rw [hc] at hi; cases hi
  | some m =>
    rw [hc] at hi
    refine ⟨i, m, hc, ?_⟩
    simp at hi
    exact hi.symm
def cA : SF := (sIf (eNot (eCall f_is_class (aCons (eSl slF (eVar 0) (eC .non) (e1 ptF (eVar 1))) (aCons (eVar 2) aNil)))) (sRaise ("BadClasses" : Str) [("index" : Str)] (aCons (eVar 1) aNil)) sNext)
def cB2 : SF := (sIf (eNot (eCall f_is_method (aCons (eSl slF (eVar 0) (eC .non) (e1 ptF (eVar 1))) (aCons (eVar 3) (aCons (eVar 2) (aCons (eVar 4) aNil)))))) (sRaise ("BadMethods" : Str) [("index" : Str), ("place" : Str)] (aCons (eVar 1) (aCons (eVar 4) aNil))) sNext)
def cB : SF := (sSeq (sIf (eNot (eCall f_are_fields (aCons (eSl slF (eVar 0) (eC .non) (e1 ptF (eVar 1))) (aCons (eVar 3) (aCons (eVar 2) aNil))))) (sRaise ("BadFields" : Str) [("index" : Str)] (aCons (eVar 1) aNil)) sNext)
  (sSeq (sIf (eNot (eCall f_is_list (aCons (e2 ixF (eVar 2) (eC (.int 3))) (aCons (eC (.int 4)) aNil)))) (sRaise ("BadMethods" : Str) [("index" : Str), ("place" : Str)] (aCons (eVar 1) (aCons (eC .non) aNil))) sNext)
  (sFor (iRange1 (aCons (eN (f1 lenF) (aCons (e2 ixF (eVar 2) (eC (.int 3))) aNil)) aNil)) (gtName 4) cB2)))
def cC2 : SF := (sExpr (eCall f_check_code (aCons (eVar 0) (aCons (eVar 1) (aCons (eVar 4) (aCons (eVar 5) aNil))))))
def cC : SF := (sFor (iEn (aCons (e2 ixF (eVar 2) (eC (.int 3))) aNil)) (gtTup (gtCons (gtName 4) (gtCons (gtName 5) gtNil))) cC2)
abbrev gE : GF := (gtTup (gtCons (gtName 1) (gtCons (gtName 2) gtNil)))
theorem okD_me {cs : List Cl} {ns : List Str} {m : Me} (hw : W m.w) (hi : ∀ k ∈ m.ins, Kind ns k) (ho : Kind ns m.out) (hc : CodeC cs m) : okD 3 (dM m) = true := by
  refine okD_tup fun d hd => ?_
  simp only [List.mem_cons, List.not_mem_nil, or_false] at hd
  rcases hd with rfl | rfl | rfl | rfl | rfl
  · exact okD_mono hw.ok (by decide)
  · refine okD_mono (n := 1) (okD_tup fun d hd => ?_) (by decide)
    obtain ⟨k, hk, rfl⟩ := List.mem_map.mp hd
    exact (hi k hk).1.ok
  · exact okD_mono ho.1.ok (by decide)
  · rw [hc.isT]
    refine okD_mono (n := 2) (okD_tup fun d hd => ?_) (by decide)
    obtain ⟨xs, rfl, hx⟩ := hc.steps d hd
    exact hx.okD
  · rw [hc.isH]
    refine okD_mono (n := 2) (okD_tup fun d hd => ?_) (by decide)
    cases hc.hands d hd with
    | mk b e n g h0 h1 h2 h3 hn hm h4 h5 =>
      refine okD_tup fun d hd => ?_
      simp only [List.mem_cons, List.not_mem_nil, or_false] at hd
      rcases hd with rfl | rfl | rfl | rfl
      · exact okD_int _
      · exact okD_int _
      · exact hn.ok
      · exact okD_int _
theorem okD_cl {cs : List Cl} {i : Nat} {c : Cl} (k : ClassOk cs i c) : okD 5 (dC c) = true := by
  refine okD_tup fun d hd => ?_
  simp only [List.mem_cons, List.not_mem_nil, or_false] at hd
  rcases hd with rfl | rfl | rfl | rfl
  · exact okD_mono k.w.ok (by decide)
  · exact okD_mono k.u.ok (by decide)
  · refine okD_mono (n := 2) (okD_tup fun d hd => ?_) (by decide)
    obtain ⟨f, hf, rfl⟩ := List.mem_map.mp hd
    obtain ⟨a, b⟩ := k.fs.ok f hf
    refine okD_tup fun d hd => ?_
    simp only [List.mem_cons, List.not_mem_nil, or_false] at hd
    rcases hd with rfl | rfl
    · exact a.ok
    · exact b.1.ok
  · refine okD_mono (n := 4) (okD_tup fun d hd => ?_) (by decide)
    obtain ⟨m, hm, rfl⟩ := List.mem_map.mp hd
    obtain ⟨j, hj⟩ := List.mem_iff_getElem?.mp hm
    have mo := k.ms j m hj
    exact okD_me mo.w mo.ins mo.out (k.code m hm)
theorem okD_cs {cs : List Cl} (h : HouseOk cs) : okD 6 (dCs cs) = true := by
  refine okD_tup fun d hd => ?_
  obtain ⟨c, hc, rfl⟩ := List.mem_map.mp hd
  obtain ⟨i, hi⟩ := List.mem_iff_getElem?.mp hc
  exact okD_cl (h.cl i c hi)
theorem check_ok {cs : List Cl} (S : Sto) (h : HouseOk cs) : f_check_classes [dCs cs] S = .ok .non S := by
  have hs := h.small
  have il := islist_ok (cs.map dC) 8 S
  have hlen : ((cs.length : Nat) : Int) ≤ 8 := by have := h.len; omega
  simp [hlen] at il
  have il' : f_is_list [dCs cs, .int 8] S = .ok (.bl true) S := il
  have hn : cs.length < LIM := lim_le (by have := h.len; omega)
  have l0 : 0 < LIM := by decide
  obtain ⟨ρ1, e1', x1, x2, rfl⟩ := forD_keep (g := gE) (body := cA) (S := S)
    (fun ρ => ∃ x1 x2, ρ = [some (dCs cs), x1, x2, none, none, none]) (xs := enD 0 (cs.map dC)) (ρ := [some (dCs cs), none, none, none, none, none]) ⟨none, none, rfl⟩ (by
      rintro x ρ hx ⟨x1, x2, rfl⟩
      obtain ⟨i, c, hc, rfl⟩ := enD_cl hx
      have hi : i < cs.length := (List.getElem?_eq_some_iff.mp hc).1
      have k := h.cl i c hc
      have ic := isclass_ok (cs := cs.take i) (c := c) S (by simp; omega) k.w k.bar k.new k.u k.up
      have sl := cut_cs cs i (by omega)
      have dd : deref S (dCs cs) = dCs cs := rfl
      exact ⟨_, _, rfl, if_f (by simp [fnD, sSeq, sIf, sBind, sRet, sNext, sSet, sExpr, sRaise, e1, e2, eVar, eC, eN, eCall, eAnd, eOr, eNot, eIf, eIsN, eNotN, isNonF, notNonF, eChain, eTup, eLst, eSl, ptF, optI, aCons, aNil, aStar, itemsD, f1, f2, notF, lenF, tupF, lstF, intF, Ress.bind, deref_non, deref_bl, deref_int, deref_str, deref_tup, deref_ctp, deref_lst, deref_dct, deref_dtt, deref_ins, iSeq, iLt, addF, subF, ixF, ixS, isF, tyB, eqF_str, neF_str, eqF_int, neF_int, Res.ofOpt, Res.bind, atI_0, atI_1, eqE_tup, sl, dd, ic]), _, _, rfl⟩)
  obtain ⟨ρ2, e2', x1', x2', x4', rfl⟩ := forD_keep (g := gE) (body := cB) (S := S)
    (fun ρ => ∃ x1 x2 x4, ρ = [some (dCs cs), x1, x2, some (.lst ((names cs).map .str)), x4, none]) (xs := enD 0 (cs.map dC)) (ρ := [some (dCs cs), x1, x2, some (.lst ((names cs).map .str)), none, none]) ⟨x1, x2, none, rfl⟩ (by
      rintro x ρ hx ⟨x1, x2, x4, rfl⟩
      obtain ⟨i, c, hc, rfl⟩ := enD_cl hx
      have hi : i < cs.length := (List.getElem?_eq_some_iff.mp hc).1
      have k := h.cl i c hc
      have sl := cut_cs cs i (by omega)
      have dd : deref S (dCs cs) = dCs cs := rfl
      have fo := fields_ok S (hs.take i) k.fs
      have il := islist_ok (c.ms.map dM) 4 S
      have hml : ((c.ms.length : Nat) : Int) ≤ 4 := by have := k.ml; omega
      simp only [List.length_map, hml, decide_true] at il
      have hml2 : c.ms.length < LIM := lim_le (by have := k.ml; omega)
      obtain ⟨ρ3, e3, x4', rfl⟩ := forD_keep (g := gtName 4) (body := cB2) (S := S)
        (fun ρ => ∃ x4, ρ = [some (dCs cs), some (.int i), some (dC c), some (.lst ((names cs).map .str)), x4, none]) (xs := dInts 0 c.ms.length) (ρ := [some (dCs cs), some (.int i), some (dC c), some (.lst ((names cs).map .str)), x4, none]) ⟨x4, rfl⟩ (by
          rintro x ρ hx ⟨x4, rfl⟩
          obtain ⟨j, hj⟩ := List.mem_iff_getElem?.mp hx
          obtain ⟨hj1, rfl⟩ := dInts_get hj
          have mo := meth_ok S (hs.take i) (List.getElem?_eq_getElem hj1) (k.ms j _ (List.getElem?_eq_getElem hj1))
          exact ⟨_, _, rfl, if_f (by simp [fnD, sSeq, sIf, sBind, sRet, sNext, sSet, sExpr, sRaise, e1, e2, eVar, eC, eN, eCall, eAnd, eOr, eNot, eIf, eIsN, eNotN, isNonF, notNonF, eChain, eTup, eLst, eSl, ptF, optI, aCons, aNil, aStar, itemsD, f1, f2, notF, lenF, tupF, lstF, intF, Ress.bind, deref_non, deref_bl, deref_int, deref_str, deref_tup, deref_ctp, deref_lst, deref_dct, deref_dtt, deref_ins, iSeq, iLt, addF, subF, ixF, ixS, isF, tyB, eqF_str, neF_str, eqF_int, neF_int, Res.ofOpt, Res.bind, atI_0, atI_1, eqE_tup, sl, dd, mo]), _, rfl⟩)
      refine ⟨_, [some (dCs cs), some (.int i), some (dC c), some (.lst ((names cs).map .str)), x4', none], rfl, ?_, _, _, _, rfl⟩
      show cB [some (dCs cs), some (.int i), some (dC c), some (.lst ((names cs).map .str)), x4, none] S = _
      unfold cB
      refine (seq_skip (S' := S) (by simp [fnD, sSeq, sIf, sBind, sRet, sNext, sSet, sExpr, sRaise, e1, e2, eVar, eC, eN, eCall, eAnd, eOr, eNot, eIf, eIsN, eNotN, isNonF, notNonF, eChain, eTup, eLst, eSl, ptF, optI, aCons, aNil, aStar, itemsD, f1, f2, notF, lenF, tupF, lstF, intF, Ress.bind, deref_non, deref_bl, deref_int, deref_str, deref_tup, deref_ctp, deref_lst, deref_dct, deref_dtt, deref_ins, iSeq, iLt, addF, subF, ixF, ixS, isF, tyB, eqF_str, neF_str, eqF_int, neF_int, Res.ofOpt, Res.bind, atI_0, atI_1, eqE_tup, sl, dd, fo])).trans ?_
      refine (seq_skip (S' := S) (by simp [fnD, sSeq, sIf, sBind, sRet, sNext, sSet, sExpr, sRaise, e1, e2, eVar, eC, eN, eCall, eAnd, eOr, eNot, eIf, eIsN, eNotN, isNonF, notNonF, eChain, eTup, eLst, eSl, ptF, optI, aCons, aNil, aStar, itemsD, f1, f2, notF, lenF, tupF, lstF, intF, Ress.bind, deref_non, deref_bl, deref_int, deref_str, deref_tup, deref_ctp, deref_lst, deref_dct, deref_dtt, deref_ins, iSeq, iLt, addF, subF, ixF, ixS, isF, tyB, eqF_str, neF_str, eqF_int, neF_int, Res.ofOpt, Res.bind, atI_0, atI_1, eqE_tup, dC, at2_3, il])).trans ?_
      exact for_ok (S1 := S) (xs := dInts 0 c.ms.length) (by simp [iRange1, fnD, sSeq, sIf, sBind, sRet, sNext, sSet, sExpr, sRaise, e1, e2, eVar, eC, eN, eCall, eAnd, eOr, eNot, eIf, eIsN, eNotN, isNonF, notNonF, eChain, eTup, eLst, eSl, ptF, optI, aCons, aNil, aStar, itemsD, f1, f2, notF, lenF, tupF, lstF, intF, Ress.bind, deref_non, deref_bl, deref_int, deref_str, deref_tup, deref_ctp, deref_lst, deref_dct, deref_dtt, deref_ins, iSeq, iLt, addF, subF, ixF, ixS, isF, tyB, eqF_str, neF_str, eqF_int, neF_int, Res.ofOpt, Res.bind, atI_0, atI_1, eqE_tup, dC, at2_3, hml2]) e3)
  obtain ⟨ρ3, e3', x1'', x2'', x4'', x5'', rfl⟩ := forD_keep (g := gE) (body := cC) (S := S)
    (fun ρ => ∃ x1 x2 x4 x5, ρ = [some (dCs cs), x1, x2, some (.lst ((names cs).map .str)), x4, x5]) (xs := enD 0 (cs.map dC)) (ρ := [some (dCs cs), x1', x2', some (.lst ((names cs).map .str)), x4', none]) ⟨x1', x2', x4', none, rfl⟩ (by
      rintro x ρ hx ⟨x1, x2, x4, x5, rfl⟩
      obtain ⟨i, c, hc, rfl⟩ := enD_cl hx
      have k := h.cl i c hc
      have hml2 : c.ms.length < LIM := lim_le (by have := k.ml; omega)
      obtain ⟨ρ3, e3, x4', x5', rfl⟩ := forD_keep (g := (gtTup (gtCons (gtName 4) (gtCons (gtName 5) gtNil)))) (body := cC2) (S := S)
        (fun ρ => ∃ x4 x5, ρ = [some (dCs cs), some (.int i), some (dC c), some (.lst ((names cs).map .str)), x4, x5]) (xs := enD 0 (c.ms.map dM)) (ρ := [some (dCs cs), some (.int i), some (dC c), some (.lst ((names cs).map .str)), x4, x5]) ⟨x4, x5, rfl⟩ (by
          rintro x ρ hx ⟨x4, x5, rfl⟩
          obtain ⟨j, m, hm, rfl⟩ := enD_me hx
          have co := code_ok (x1 := .int i) (x2 := .int j) S hs.seen (k.code m (List.mem_of_getElem? hm))
          exact ⟨_, _, rfl, expr_ok (S' := S) (d := .non) (by simp [fnD, sSeq, sIf, sBind, sRet, sNext, sSet, sExpr, sRaise, e1, e2, eVar, eC, eN, eCall, eAnd, eOr, eNot, eIf, eIsN, eNotN, isNonF, notNonF, eChain, eTup, eLst, eSl, ptF, optI, aCons, aNil, aStar, itemsD, f1, f2, notF, lenF, tupF, lstF, intF, Ress.bind, deref_non, deref_bl, deref_int, deref_str, deref_tup, deref_ctp, deref_lst, deref_dct, deref_dtt, deref_ins, iSeq, iLt, addF, subF, ixF, ixS, isF, tyB, eqF_str, neF_str, eqF_int, neF_int, Res.ofOpt, Res.bind, atI_0, atI_1, eqE_tup, co]), _, _, rfl⟩)
      exact ⟨_, _, rfl, for_ok (S1 := S) (xs := enD 0 (c.ms.map dM)) (by simp [iEn, fnD, sSeq, sIf, sBind, sRet, sNext, sSet, sExpr, sRaise, e1, e2, eVar, eC, eN, eCall, eAnd, eOr, eNot, eIf, eIsN, eNotN, isNonF, notNonF, eChain, eTup, eLst, eSl, ptF, optI, aCons, aNil, aStar, itemsD, f1, f2, notF, lenF, tupF, lstF, intF, Ress.bind, deref_non, deref_bl, deref_int, deref_str, deref_tup, deref_ctp, deref_lst, deref_dct, deref_dtt, deref_ins, iSeq, iLt, addF, subF, ixF, ixS, isF, tyB, eqF_str, neF_str, eqF_int, neF_int, Res.ofOpt, Res.bind, atI_0, atI_1, eqE_tup, dC, at2_3, hml2]) e3, _, _, _, _, rfl⟩)
  have okC : eqE (dCs cs) (.tup []) = some (.bl false) := by
    have sh := okD_sh (okD_cs h) (by decide)
    have sh0 : shD (.tup []) = true := by decide +kernel
    have hne : (cs.map dC).isEmpty = false := by
      cases hq : cs with
      | nil => exact absurd hq h.ne
      | cons a r => rfl
    exact congrArg (fun b => some (D.bl b)) hne
  refine fn_nx (ρ' := [some (dCs cs), x1'', x2'', some (.lst ((names cs).map .str)), x4'', x5'']) ?_
  show b_check_classes [some (dCs cs), none, none, none, none, none] S = _
  unfold b_check_classes
  have dd : deref S (dCs cs) = dCs cs := rfl
  refine (seq_skip (S' := S) (by simp [fnD, sSeq, sIf, sBind, sRet, sNext, sSet, sExpr, sRaise, e1, e2, eVar, eC, eN, eCall, eAnd, eOr, eNot, eIf, eIsN, eNotN, isNonF, notNonF, eChain, eTup, eLst, eSl, ptF, optI, aCons, aNil, aStar, itemsD, f1, f2, notF, lenF, tupF, lstF, intF, Ress.bind, deref_non, deref_bl, deref_int, deref_str, deref_tup, deref_ctp, deref_lst, deref_dct, deref_dtt, deref_ins, iSeq, iLt, addF, subF, ixF, ixS, isF, tyB, eqF_str, neF_str, eqF_int, neF_int, Res.ofOpt, Res.bind, atI_0, atI_1, eqE_tup, dd, il', okC, l0])).trans ?_
  refine (seq_nx (for_ok (S1 := S) (xs := enD 0 (cs.map dC)) (by simp [iEn, fnD, sSeq, sIf, sBind, sRet, sNext, sSet, sExpr, sRaise, e1, e2, eVar, eC, eN, eCall, eAnd, eOr, eNot, eIf, eIsN, eNotN, isNonF, notNonF, eChain, eTup, eLst, eSl, ptF, optI, aCons, aNil, aStar, itemsD, f1, f2, notF, lenF, tupF, lstF, intF, Ress.bind, deref_non, deref_bl, deref_int, deref_str, deref_tup, deref_ctp, deref_lst, deref_dct, deref_dtt, deref_ins, iSeq, iLt, addF, subF, ixF, ixS, isF, tyB, eqF_str, neF_str, eqF_int, neF_int, Res.ofOpt, Res.bind, atI_0, atI_1, eqE_tup, dCs, hn]) e1')).trans ?_
  refine (seq_set (d := .lst ((names cs).map .str)) (S' := S) (by simp [fnD, sSeq, sIf, sBind, sRet, sNext, sSet, sExpr, sRaise, e1, e2, eVar, eC, eN, eCall, eAnd, eOr, eNot, eIf, eIsN, eNotN, isNonF, notNonF, eChain, eTup, eLst, eSl, ptF, optI, aCons, aNil, aStar, itemsD, f1, f2, notF, lenF, tupF, lstF, intF, Ress.bind, deref_non, deref_bl, deref_int, deref_str, deref_tup, deref_ctp, deref_lst, deref_dct, deref_dtt, deref_ins, iSeq, iLt, addF, subF, ixF, ixS, isF, tyB, eqF_str, neF_str, eqF_int, neF_int, Res.ofOpt, Res.bind, atI_0, atI_1, eqE_tup, names_ok cs S (by omega)])).trans ?_
  simp only [List.set_cons_succ, List.set_cons_zero]
  refine (seq_nx (for_ok (S1 := S) (xs := enD 0 (cs.map dC)) (by simp [iEn, fnD, sSeq, sIf, sBind, sRet, sNext, sSet, sExpr, sRaise, e1, e2, eVar, eC, eN, eCall, eAnd, eOr, eNot, eIf, eIsN, eNotN, isNonF, notNonF, eChain, eTup, eLst, eSl, ptF, optI, aCons, aNil, aStar, itemsD, f1, f2, notF, lenF, tupF, lstF, intF, Ress.bind, deref_non, deref_bl, deref_int, deref_str, deref_tup, deref_ctp, deref_lst, deref_dct, deref_dtt, deref_ins, iSeq, iLt, addF, subF, ixF, ixS, isF, tyB, eqF_str, neF_str, eqF_int, neF_int, Res.ofOpt, Res.bind, atI_0, atI_1, eqE_tup, dCs, hn]) e2')).trans ?_
  exact for_ok (S1 := S) (xs := enD 0 (cs.map dC)) (by simp [iEn, fnD, sSeq, sIf, sBind, sRet, sNext, sSet, sExpr, sRaise, e1, e2, eVar, eC, eN, eCall, eAnd, eOr, eNot, eIf, eIsN, eNotN, isNonF, notNonF, eChain, eTup, eLst, eSl, ptF, optI, aCons, aNil, aStar, itemsD, f1, f2, notF, lenF, tupF, lstF, intF, Ress.bind, deref_non, deref_bl, deref_int, deref_str, deref_tup, deref_ctp, deref_lst, deref_dct, deref_dtt, deref_ins, iSeq, iLt, addF, subF, ixF, ixS, isF, tyB, eqF_str, neF_str, eqF_int, neF_int, Res.ofOpt, Res.bind, atI_0, atI_1, eqE_tup, dCs, hn]) e3'
/-- a house is made -/
def hs0 (cs : List Cl) : SO := .ins "House" [("told", dCs cs)]
theorem init_ok {cs : List Cl} (S : Sto) (h : HouseOk cs) : f_House___init__ [.obj S.length, dCs cs] (S ++ [.ins "House" []]) = .ok .non (S ++ [hs0 cs]) := by
  refine fn_nx (ρ' := [some (.obj S.length), some (dCs cs)]) ?_
  show b_House___init__ [some (.obj S.length), some (dCs cs)] (S ++ [.ins "House" []]) = _
  unfold b_House___init__
  refine (seq_nx (expr_ok (S' := S ++ [.ins "House" []]) (d := .non) (by simp [fnD, sSeq, sIf, sBind, sRet, sNext, sSet, sExpr, sRaise, e1, e2, eVar, eC, eN, eCall, eAnd, eOr, eNot, eIf, eIsN, eNotN, isNonF, notNonF, eChain, eTup, eLst, eSl, ptF, optI, aCons, aNil, aStar, itemsD, f1, f2, notF, lenF, tupF, lstF, intF, Ress.bind, deref_non, deref_bl, deref_int, deref_str, deref_tup, deref_ctp, deref_lst, deref_dct, deref_dtt, deref_ins, iSeq, iLt, addF, subF, ixF, ixS, isF, tyB, eqF_str, neF_str, eqF_int, neF_int, Res.ofOpt, Res.bind, atI_0, atI_1, eqE_tup, check_ok _ h]))).trans ?_
  have e : (S ++ [SO.ins "House" []])[S.length]? = some (.ins "House" []) := by simp
  have c : ("House" : Str) ∈ [("House" : Str)] := List.mem_singleton.mpr rfl
  simp [sFldO, sBind, eVar, e, putFD]
  rfl
theorem make_ok {cs : List Cl} {fa : AF} {ρ : DEnv} {S S' : Sto} (h : HouseOk cs) (ha : fa ρ S = .ok [dCs cs] S') : eMake "House" f_House___init__ fa ρ S = .ok (.obj S'.length) (S' ++ [hs0 cs]) := by
  simp [eMake, ha, init_ok S' h]
end H

set_option maxHeartbeats 4000000
namespace H
open DL PySem PySem.Spec PyProof.Rows L2
/-! ### expressions one by one -/
theorem e2_ok {g : D → D → Option D} {fa fb : EF} {ρ : DEnv} {S S1 S2 : Sto} {x y d : D} (h1 : fa ρ S = .ok x S1) (h2 : fb ρ S1 = .ok y S2) (h3 : g (deref S2 x) (deref S2 y) = some d) : e2 g fa fb ρ S = .ok d S2 := by
  simp only [e2, h1, Res.bind, h2, h3, Res.ofOpt]
theorem e1_ok {g : D → Option D} {fa : EF} {ρ : DEnv} {S S1 : Sto} {x d : D} (h1 : fa ρ S = .ok x S1) (h3 : g (deref S1 x) = some d) : e1 g fa ρ S = .ok d S1 := by
  simp only [e1, h1, Res.bind, h3, Res.ofOpt]
theorem nil_ok {ρ : DEnv} {S : Sto} : aNil ρ S = .ok [] S := rfl
theorem cons_ok {f : EF} {g : AF} {ρ : DEnv} {S S1 S2 : Sto} {d : D} {ds : List D} (h1 : f ρ S = .ok d S1) (h2 : g ρ S1 = .ok ds S2) : aCons f g ρ S = .ok (d :: ds) S2 := by
  simp only [aCons, h1, h2]
theorem lst_ok {fa : AF} {ρ : DEnv} {S S1 : Sto} {ds : List D} (h1 : fa ρ S = .ok ds S1) (h2 : ds.length ≤ 1000) : eLst fa ρ S = .ok (.lst ds) S1 := by
  have : ds.length < LIM := lim_le (by omega)
  simp only [eLst, h1, this, if_true]
theorem tup_ok {fa : AF} {ρ : DEnv} {S S1 : Sto} {ds : List D} (h1 : fa ρ S = .ok ds S1) (h2 : ds.length ≤ 1000) : eTup fa ρ S = .ok (.tup ds) S1 := by
  have : ds.length < LIM := lim_le (by omega)
  simp only [eTup, h1, this, if_true]
theorem call_ok {ff : FF} {fa : AF} {ρ : DEnv} {S S1 : Sto} {ds : List D} {r : Res} (h1 : fa ρ S = .ok ds S1) (h2 : ff ds S1 = r) : eCall ff fa ρ S = r := by
  simp only [eCall, h1, Ress.bind, h2]
theorem eN_ok {g : List D → Option D} {fa : AF} {ρ : DEnv} {S S1 : Sto} {ds : List D} {d : D} (h1 : fa ρ S = .ok ds S1) (h2 : g (ds.map (deref S1)) = some d) : eN g fa ρ S = .ok d S1 := by
  simp only [eN, h1, Ress.bind, h2, Res.ofOpt]
theorem var_ok {i : Nat} {ρ : DEnv} {S : Sto} {d : D} (h : ρ[i]? = some (some d)) : eVar i ρ S = .ok d S := by
  simp only [eVar, h]
theorem c_ok {d : D} {ρ : DEnv} {S : Sto} : eC d ρ S = .ok d S := rfl
theorem not_ok {f : EF} {ρ : DEnv} {S S1 : Sto} {b : Bool} (h : f ρ S = .ok (.bl b) S1) : eNot f ρ S = .ok (.bl !b) S1 := by
  simp only [eNot, h, Res.bind, notF, Res.ofOpt]
theorem or_ff {f g : EF} {ρ : DEnv} {S S1 : Sto} {r : Res} (h : f ρ S = .ok (.bl false) S1) (h2 : g ρ S1 = r) : eOr f g ρ S = r := by
  simp only [eOr, h, Res.bind, h2]
theorem or_tt {f g : EF} {ρ : DEnv} {S S1 : Sto} (h : f ρ S = .ok (.bl true) S1) : eOr f g ρ S = .ok (.bl true) S1 := by
  simp only [eOr, h, Res.bind]
theorem and_tt {f g : EF} {ρ : DEnv} {S S1 : Sto} {r : Res} (h : f ρ S = .ok (.bl true) S1) (h2 : g ρ S1 = r) : eAnd f g ρ S = r := by
  simp only [eAnd, h, Res.bind, h2]
theorem and_ff {f g : EF} {ρ : DEnv} {S S1 : Sto} (h : f ρ S = .ok (.bl false) S1) : eAnd f g ρ S = .ok (.bl false) S1 := by
  simp only [eAnd, h, Res.bind]
theorem if_tt {c f g : EF} {ρ : DEnv} {S S1 : Sto} {r : Res} (h : c ρ S = .ok (.bl true) S1) (h2 : f ρ S1 = r) : eIf c f g ρ S = r := by
  simp only [eIf, h, Res.bind, h2]
theorem if_ff {c f g : EF} {ρ : DEnv} {S S1 : Sto} {r : Res} (h : c ρ S = .ok (.bl false) S1) (h2 : g ρ S1 = r) : eIf c f g ρ S = r := by
  simp only [eIf, h, Res.bind, h2]
theorem app_ok {i : Nat} {f : EF} {ρ : DEnv} {S S1 : Sto} {ds : List D} {d : D} (h0 : ρ[i]? = some (some (.lst ds))) (h1 : f ρ S = .ok d S1) (h2 : ds.length ≤ 1000) : sApp i f ρ S = .nx (ρ.set i (some (.lst (ds ++ [d])))) S1 := by
  have : ds.length < LIM := lim_le (by omega)
  simp only [sApp, h0, sBind, h1, this, if_true]
theorem par_ok {is : List Nat} {f : AF} {ρ : DEnv} {S S1 : Sto} {ds : List D} (h : f ρ S = .ok ds S1) : sPar is f ρ S = .nx (putD' ρ is ds) S1 := by
  simp only [sPar, h]
theorem lc_ok {vs : List Nat} {fi : IF} {g : GF} {fc fe : EF} {ρ : DEnv} {S S1 : Sto} {ds : List D} {r : Res} (h : fi ρ S = .ok ds S1) (h2 : lcD g fc fe ds [] (wipeD ρ vs) S1 = r) : eLc vs fi g fc fe ρ S = r := by
  simp only [eLc, h, h2]
theorem seq_ok {f : EF} {ρ : DEnv} {S S1 : Sto} {ds : List D} (h : f ρ S = .ok (.lst ds) S1) : iSeq f ρ S = .ok ds S1 := by simp only [iSeq, h]
theorem seq_okT {f : EF} {ρ : DEnv} {S S1 : Sto} {ds : List D} (h : f ρ S = .ok (.tup ds) S1) : iSeq f ρ S = .ok ds S1 := by simp only [iSeq, h]
theorem range_ok {f : AF} {ρ : DEnv} {S S1 : Sto} {n : Nat} (h : f ρ S = .ok [.int n] S1) (hn : n ≤ 1000) : iRange1 f ρ S = .ok (dInts 0 n) S1 := by
  have h1 : n < LIM := lim_le (by omega)
  have h2 : -(4611686018427387904 : Int) ≤ (n : Int) := by omega
  simp [iRange1, h, h1, h2]
/-! ### draws -/
def row (cells : List Int) (n : Nat) (seed pend : Int) (T : Sto) : Sto := SO.lst [.lst (cells.map D.int), .int n, .int seed, .int pend] :: T
/-- the store: the row of draws first, T behind it -/
def Row (cells : List Int) (T S : Sto) : Prop := ∃ n seed pend, S = row cells n seed pend T
theorem taken_row0 (cells : List Int) (T : Sto) (n : Nat) (seed pend m : Int) (h0 : 0 < m) (h1 : m < 1073741824) :
    ∃ (r : Int) (n' : Nat) (seed' pend' : Int), f__law_taken [.obj 0, .int m] (row cells n seed pend T) = .ok (.int r) (row cells n' seed' pend' T) ∧ 0 ≤ r ∧ r < m := by
  by_cases hp : 0 < pend
  · refine ⟨pend % m, n, seed, pend / m, ?_, Int.emod_nonneg _ (by omega), Int.emod_lt_of_pos _ h0⟩
    simp [f__law_taken, b__law_taken, fnD, sSeq, sIf, sBind, e2, eVar, eC, deref, ixF, ixS, L2.atI, ixN, row, iLt, hp, sSet, eN, aCons, aNil, f1, intF, modF, h0, sPutO, setO, divF, h1, sRet, Ress.bind]
  · by_cases hn : n + 1 > cells.length
    · refine ⟨(((seed * 48271 + 11) % 2147483647) / 7) % m, n + 1, (seed * 48271 + 11) % 2147483647, pend, ?_, Int.emod_nonneg _ (by omega), Int.emod_lt_of_pos _ h0⟩
      have hn' : (cells.length : Int) < (n : Int) + 1 := by omega
      simp [f__law_taken, b__law_taken, fnD, sSeq, sIf, sBind, e2, eVar, eC, deref, ixF, ixS, L2.atI, ixN, row, iLt, hp, sSet, eN, aCons, aNil, f1, intF, modF, h0, sPutO, setO, divF, h1, sRet, Ress.bind, sNext, addF, lenF, hn', mulF]
    · have hn' : ¬ (cells.length : Int) < (n : Int) + 1 := by omega
      have hl : n < cells.length := by omega
      have hat : L2.atI (cells.map D.int) ((n : Int) + 1 - 1) = some (.int cells[n]) := by
        unfold L2.atI ixN
        have e1 : (n : Int) + 1 - 1 = (n : Int) := by omega
        rw [e1, if_pos (Int.natCast_nonneg n), if_pos (by simpa using hl)]
        simp [hl]
      by_cases hc : (10 : Int) ^ 18 ≤ cells[n]
      · refine ⟨cells[n] % m, n + 1, (seed * 48271 + cells[n] + 11) % 2147483647, cells[n] / m, ?_, Int.emod_nonneg _ (by omega), Int.emod_lt_of_pos _ h0⟩
        have hc' : (1000000000000000000 : Int) ≤ cells[n] := by simpa using hc
        simp [f__law_taken, b__law_taken, fnD, sSeq, sIf, sBind, e2, eVar, eC, deref, ixF, ixS, L2.atI, ixN, row, iLt, hp, sSet, eN, aCons, aNil, f1, intF, modF, h0, sPutO, setO, divF, h1, sRet, Ress.bind, sNext, addF, lenF, hn', mulF, subF, powF, hc', hl]
      · refine ⟨cells[n] % m, n + 1, (seed * 48271 + cells[n] + 11) % 2147483647, pend, ?_, Int.emod_nonneg _ (by omega), Int.emod_lt_of_pos _ h0⟩
        have hc' : ¬ (1000000000000000000 : Int) ≤ cells[n] := by simpa using hc
        simp [f__law_taken, b__law_taken, fnD, sSeq, sIf, sBind, e2, eVar, eC, deref, ixF, ixS, L2.atI, ixN, row, iLt, hp, sSet, eN, aCons, aNil, f1, intF, modF, h0, sPutO, setO, divF, h1, sRet, Ress.bind, sNext, addF, lenF, hn', mulF, subF, powF, hc', hl]
theorem taken_row {cells : List Int} {T S : Sto} {m : Int} (h : Row cells T S) (h0 : 0 < m) (h1 : m < 1073741824) :
    ∃ (r : Nat) (S' : Sto), f__law_taken [.obj 0, .int m] S = .ok (.int r) S' ∧ (r : Int) < m ∧ Row cells T S' := by
  obtain ⟨n, seed, pend, rfl⟩ := h
  obtain ⟨r, n', s', p', e, a, b⟩ := taken_row0 cells T n seed pend m h0 h1
  refine ⟨r.toNat, _, ?_, by omega, n', s', p', rfl⟩
  rw [e]
  congr 2
  omega
theorem pick_row {α : Type} {cells : List Int} {T S : Sto} (emb : α → D) (l : List α) (h : Row cells T S) (hne : l ≠ []) (hl : l.length < 100000) :
    ∃ (a : α) (S' : Sto), f__law_pick [.obj 0, .lst (l.map emb)] S = .ok (emb a) S' ∧ a ∈ l ∧ Row cells T S' := by
  have hp : 0 < l.length := List.length_pos_iff.mpr hne
  obtain ⟨r, S', e, a, b⟩ := taken_row (m := (l.length : Int)) h (by omega) (by omega)
  have hr : r < l.length := by omega
  refine ⟨l[r], S', ?_, List.getElem_mem hr, b⟩
  have at1 : L2.atI (l.map emb) (r : Int) = some (emb l[r]) := by rw [atI_nat (by simpa using hr), List.getElem?_map, List.getElem?_eq_getElem hr]; rfl
  refine fn_rt ?_
  show b__law_pick [some (.obj 0), some (.lst (l.map emb))] S = _
  unfold b__law_pick
  exact ret_ok (by simp [fnD, sSeq, sIf, sBind, sRet, sNext, sSet, sExpr, sRaise, e1, e2, eVar, eC, eN, eCall, eAnd, eOr, eNot, eIf, eIsN, eNotN, isNonF, notNonF, eChain, eTup, eLst, eSl, ptF, optI, aCons, aNil, aStar, itemsD, f1, f2, notF, lenF, tupF, lstF, intF, Ress.bind, deref_non, deref_bl, deref_int, deref_str, deref_tup, deref_ctp, deref_lst, deref_dct, deref_dtt, deref_ins, iSeq, iLt, addF, subF, ixF, ixS, isF, tyB, eqF_str, neF_str, eqF_int, neF_int, Res.ofOpt, Res.bind, atI_0, atI_1, eqE_tup, e, at1])
end H

set_option maxHeartbeats 4000000
namespace H
open DL PySem PySem.Spec PyProof.Rows L2
theorem atI_in {α : Type} (emb : α → D) {l : List α} {i : Int} (h : -(l.length : Int) ≤ i) (h2 : i < l.length) : ∃ a ∈ l, L2.atI (l.map emb) i = some (emb a) := by
  unfold L2.atI ixN
  by_cases h0 : 0 ≤ i
  · have hi : i.toNat < l.length := by omega
    refine ⟨l[i.toNat], List.getElem_mem hi, ?_⟩
    rw [if_pos h0, if_pos (by simpa using h2)]
    simp [hi]
  · have hi : (i + l.length).toNat < l.length := by omega
    refine ⟨l[(i + l.length).toNat], List.getElem_mem hi, ?_⟩
    rw [if_neg h0, if_pos (by simpa using h)]
    simp [hi]
theorem pick_str {cells : List Int} {T S : Sto} (l : List Str) (h : Row cells T S) (hne : l ≠ []) (hl : l.length < 100000) :
    ∃ (a : Str) (S' : Sto), f__law_pick [.obj 0, .lst (l.map .str)] S = .ok (.str a) S' ∧ a ∈ l ∧ Row cells T S' := pick_row D.str l h hne hl
def names8 : List Str := ["egg", "box", "red", "blue", "cat", "dog", "sun", "moon"]
structure TreeOk (l : List (Str × Str)) : Prop where
  nm : l.map (·.1) = names8.take l.length
  up : ∀ i p, l[i]? = some p → p.2 ∈ top :: names8.take i
def treeBody : SF := (sSeq (sSet 6 (e2 addF (eLst (aCons (eC (.str ("top" : Str))) aNil)) (eLc [8] (iSeqB (eVar 4)) (gtName 8) eYes (e2 ixF (eVar 8) (eC (.int 0))))))
  (sSeq (sSet 7 (e2 ixF (eLst (aCons (e2 ixF (eVar 6) (e1 negF (eC (.int 1)))) (aCons (e2 ixF (eVar 6) (e2 modF (eCall f__law_taken (aCons (eVar 0) (aCons (eC (.int 2)) aNil))) (eN (f1 lenF) (aCons (eVar 6) aNil)))) (aCons (eCall f__law_pick (aCons (eVar 0) (aCons (eVar 6) aNil))) aNil)))) (eVar 3)))
  (sApp 4 (eTup (aCons (e2 ixF (eVar 2) (eVar 5)) (aCons (eVar 7) aNil))))))
theorem tree_pick {cells : List Int} {T S : Sto} {ss : List Str} {n r : Nat} {x1 x2 x4 x5 x7 x8 : Option D} (h : Row cells T S) (hn : ss.length = n + 1) (hl : n < 8) (hr : r < 3) :
    ∃ u S', (e2 ixF (eLst (aCons (e2 ixF (eVar 6) (e1 negF (eC (.int 1)))) (aCons (e2 ixF (eVar 6) (e2 modF (eCall f__law_taken (aCons (eVar 0) (aCons (eC (.int 2)) aNil))) (eN (f1 lenF) (aCons (eVar 6) aNil)))) (aCons (eCall f__law_pick (aCons (eVar 0) (aCons (eVar 6) aNil))) aNil)))) (eVar 3)) [some (.obj 0), x1, x2, some (.int r), x4, x5, some (.lst (ss.map .str)), x7, x8] S = .ok (.str u) S' ∧ u ∈ ss ∧ Row cells T S' := by
  obtain ⟨r2, S1, e1', a1, b1⟩ := taken_row (m := 2) h (by decide) (by decide)
  obtain ⟨p, S2, e2', a2, b2⟩ := pick_str ss b1 (by intro q; rw [q] at hn; simp at hn) (by omega)
  obtain ⟨u0, hu0, at0⟩ := atI_in D.str (l := ss) (i := -1) (by omega) (by omega)
  have hmod : 0 ≤ (r2 : Int) % (ss.length : Int) ∧ (r2 : Int) % (ss.length : Int) < (ss.length : Int) := ⟨Int.emod_nonneg _ (by omega), Int.emod_lt_of_pos _ (by omega)⟩
  obtain ⟨u1, hu1, at1⟩ := atI_in D.str (l := ss) (i := (r2 : Int) % (ss.length : Int)) (by omega) (by omega)
  obtain ⟨u, hu, atr⟩ := atI_in D.str (l := [u0, u1, p]) (i := (r : Int)) (by omega) (by first | (simp; done) | (simp; omega))
  have hux : u ∈ ss := by
    simp only [List.mem_cons, List.not_mem_nil, or_false] at hu
    rcases hu with rfl | rfl | rfl
    · exact hu0
    · exact hu1
    · exact a2
  have hp : (0 : Int) < (ss.length : Int) := by omega
  have l3 : 3 < LIM := by decide
  simp only [List.map_cons, List.map_nil] at atr
  refine ⟨u, S2, ?_, hux, b2⟩
  exact e2_ok (lst_ok (cons_ok (e2_ok (var_ok rfl) (e1_ok c_ok rfl) at0) (cons_ok (e2_ok (var_ok rfl) (e2_ok (d := .int ((r2 : Int) % (ss.length : Int))) (call_ok (cons_ok (var_ok rfl) (cons_ok c_ok nil_ok)) e1') (eN_ok (cons_ok (var_ok rfl) nil_ok) (d := .int ss.length) (by simp [f1, lenF, deref_lst])) (by simp only [deref_int, modF, hp, if_true])) at1) (cons_ok (call_ok (cons_ok (var_ok rfl) (cons_ok (var_ok rfl) nil_ok)) e2') nil_ok))) (by simp)) (var_ok rfl) atr
theorem tree_some {S : Sto} {l : List (Str × Str)} {x0 x1 x2 x3 x5 x6 x7 x8 : Option D} (hl : l.length < 8) :
    e2 addF (eLst (aCons (eC (.str ("top" : Str))) aNil)) (eLc [8] (iSeqB (eVar 4)) (gtName 8) eYes (e2 ixF (eVar 8) (eC (.int 0)))) [x0, x1, x2, x3, some (.lst (l.map dF)), x5, x6, x7, x8] S = .ok (.lst ((top :: l.map (·.1)).map .str)) S := by
  have lc := lcD_map (g := gtName 8) (fe := e2 ixF (eVar 8) (eC (.int 0))) (ρ := [x0, x1, x2, x3, some (.lst (l.map dF)), x5, x6, x7, none]) (S := S) dF (fun p => .str p.1) (l := l) (acc := []) (fun p _ => ⟨_, rfl, by simp [fnD, sSeq, sIf, sBind, sRet, sNext, sSet, sExpr, sRaise, e1, e2, eVar, eC, eN, eCall, eAnd, eOr, eNot, eIf, eIsN, eNotN, isNonF, notNonF, eChain, eTup, eLst, eSl, ptF, optI, aCons, aNil, aStar, itemsD, f1, f2, notF, lenF, tupF, lstF, intF, Ress.bind, deref_non, deref_bl, deref_int, deref_str, deref_tup, deref_ctp, deref_lst, deref_dct, deref_dtt, deref_ins, iSeq, iLt, addF, subF, ixF, ixS, isF, tyB, eqF_str, neF_str, eqF_int, neF_int, Res.ofOpt, Res.bind, atI_0, atI_1, eqE_tup, dF]⟩)
  have q : eLc [8] (iSeqB (eVar 4)) (gtName 8) eYes (e2 ixF (eVar 8) (eC (.int 0))) [x0, x1, x2, x3, some (.lst (l.map dF)), x5, x6, x7, x8] S = .ok (.lst (l.map fun p => .str p.1)) S := by
    simp only [eLc, iSeqB, eVar, List.getElem?_cons_succ, List.getElem?_cons_zero, wipeD, List.set_cons_succ, List.set_cons_zero]
    rw [lc]; rfl
  have l1 : 1 < LIM := by decide
  have l2 : 1 + l.length < LIM := lim_le (by omega)
  have g1 : eLst (aCons (eC (.str ("top" : Str))) aNil) [x0, x1, x2, x3, some (.lst (l.map dF)), x5, x6, x7, x8] S = .ok (.lst [.str ("top" : Str)]) S := by
    simp [fnD, sSeq, sIf, sBind, sRet, sNext, sSet, sExpr, sRaise, e1, e2, eVar, eC, eN, eCall, eAnd, eOr, eNot, eIf, eIsN, eNotN, isNonF, notNonF, eChain, eTup, eLst, eSl, ptF, optI, aCons, aNil, aStar, itemsD, f1, f2, notF, lenF, tupF, lstF, intF, Ress.bind, deref_non, deref_bl, deref_int, deref_str, deref_tup, deref_ctp, deref_lst, deref_dct, deref_dtt, deref_ins, iSeq, iLt, addF, subF, ixF, ixS, isF, tyB, eqF_str, neF_str, eqF_int, neF_int, Res.ofOpt, Res.bind, atI_0, atI_1, eqE_tup, l1]
  simp only [e2, q, g1, Res.bind, deref_lst, addF, List.length_map, List.length_cons, List.length_nil, Nat.zero_add, l2, if_true, Res.ofOpt, List.map_cons, List.map_map]
  rfl
theorem tree_body {cells : List Int} {T S : Sto} {l : List (Str × Str)} {r : Nat} {x1 x6 x7 x8 : Option D} (h : Row cells T S) (hl : l.length < 8) (hr : r < 3) :
    ∃ u S' x6' x7' x8', treeBody [some (.obj 0), x1, some (.lst (names8.map .str)), some (.int r), some (.lst (l.map dF)), some (.int l.length), x6, x7, x8] S = .nx [some (.obj 0), x1, some (.lst (names8.map .str)), some (.int r), some (.lst ((l ++ [(names8[l.length], u)]).map dF)), some (.int l.length), x6', x7', x8'] S' ∧ u ∈ top :: l.map (·.1) ∧ Row cells T S' := by
  obtain ⟨u, S2, e1', hu, b2⟩ := tree_pick (x1 := x1) (x2 := some (.lst (names8.map .str))) (x4 := some (.lst (l.map dF))) (x5 := some (.int l.length)) (x7 := x7) (x8 := x8) h (ss := top :: l.map (·.1)) (n := l.length) (by simp) hl hr
  have at8 : L2.atI (names8.map D.str) (l.length : Int) = some (.str names8[l.length]) := by
    rw [DL.atI_nat (by simpa [names8] using hl), List.getElem?_map, List.getElem?_eq_getElem hl]; rfl
  unfold treeBody
  refine ⟨u, S2, some (.lst ((top :: l.map (·.1)).map .str)), some (.str u), x8, ?_, hu, b2⟩
  refine (seq_set (S' := S) (tree_some hl)).trans ?_
  simp only [List.set_cons_succ, List.set_cons_zero]
  refine (seq_set (d := .str u) (S' := S2) e1').trans ?_
  simp only [List.set_cons_succ, List.set_cons_zero]
  refine (app_ok (ds := l.map dF) (d := dF (names8[l.length], u)) (S1 := S2) rfl (tup_ok (cons_ok (e2_ok (var_ok rfl) (var_ok rfl) at8) (cons_ok (var_ok rfl) nil_ok)) (by simp)) (by simp; omega)).trans ?_
  simp only [List.set_cons_succ, List.set_cons_zero, List.map_append, List.map_cons, List.map_nil]
theorem tree_row {cells : List Int} {T S : Sto} {k : Nat} (h : Row cells T S) (hk : k ≤ 8) :
    ∃ l S', f__law_tree [.obj 0, .int k] S = .ok (.lst (l.map dF)) S' ∧ l.length = k ∧ TreeOk l ∧ Row cells T S' := by
  obtain ⟨r, S1, e1', a1, b1⟩ := taken_row (m := 3) h (by decide) (by decide)
  obtain ⟨ρ', S2, e2', l, x5, x6, x7, x8, rfl, hl, hT, b2⟩ := forD_all (g := gtName 5) (body := treeBody) (xs := dInts 0 k) (ρ := [some (.obj 0), some (.int k), some (.lst (names8.map .str)), some (.int r), some (.lst []), none, none, none, none]) (S := S1)
    (fun i ρ S => ∃ l x5 x6 x7 x8, ρ = [some (.obj 0), some (.int k), some (.lst (names8.map .str)), some (.int r), some (.lst ((l : List (Str × Str)).map dF)), x5, x6, x7, x8] ∧ l.length = i ∧ TreeOk l ∧ Row cells T S)
    ⟨[], none, none, none, none, rfl, rfl, ⟨rfl, by simp⟩, b1⟩ (by
      rintro i x ρ S hx ⟨l, x5, x6, x7, x8, rfl, rfl, hT, hS⟩
      obtain ⟨hi, rfl⟩ := dInts_get hx
      obtain ⟨u, S', x6', x7', x8', e, hu, b⟩ := tree_body (x1 := some (.int k)) (x6 := x6) (x7 := x7) (x8 := x8) hS (l := l) (by omega) (by omega : r < 3)
      have e0 : (0 : Int) + (l.length : Int) = (l.length : Int) := by omega
      rw [e0]
      have hl8 : l.length < names8.length := by simp [names8]; omega
      refine ⟨_, _, S', rfl, .inl e, l ++ [(names8[l.length], u)], _, _, _, _, rfl, by simp, ⟨?_, ?_⟩, b⟩
      · rw [List.map_append, hT.nm, List.length_append]
        simp only [List.map_cons, List.map_nil, List.length_cons, List.length_nil, Nat.zero_add]
        rw [List.take_add_one, List.getElem?_eq_getElem hl8]
        rfl
      · intro i p hp
        by_cases hi : i < l.length
        · rw [List.getElem?_append_left hi] at hp
          exact hT.up i p hp
        · rw [List.getElem?_append_right (by omega)] at hp
          have : i = l.length := by
            have := (List.getElem?_eq_some_iff.mp hp).1
            simp at this; omega
          subst this
          simp at hp
          subst hp
          rw [hT.nm] at hu
          exact hu)
  refine ⟨l, S2, ?_, by rw [dInts_len'] at hl; exact hl, hT, b2⟩
  have l0 : 0 < LIM := by decide
  have lk : k < LIM := lim_le (by omega)
  have l8 : 8 < LIM := by decide
  have hp : (sPar [2, 3, 4] (aCons (eLst (aCons (eC (.str ("egg" : Str))) (aCons (eC (.str ("box" : Str))) (aCons (eC (.str ("red" : Str))) (aCons (eC (.str ("blue" : Str))) (aCons (eC (.str ("cat" : Str))) (aCons (eC (.str ("dog" : Str))) (aCons (eC (.str ("sun" : Str))) (aCons (eC (.str ("moon" : Str))) aNil))))))))) (aCons (eCall f__law_taken (aCons (eVar 0) (aCons (eC (.int 3)) aNil))) (aCons (eLst aNil) aNil)))) [some (.obj 0), some (.int k), none, none, none, none, none, none, none] S = .nx [some (.obj 0), some (.int k), some (.lst (names8.map .str)), some (.int r), some (.lst []), none, none, none, none] S1 := by
    simp [sPar, fnD, sSeq, sIf, sBind, sRet, sNext, sSet, sExpr, sRaise, e1, e2, eVar, eC, eN, eCall, eAnd, eOr, eNot, eIf, eIsN, eNotN, isNonF, notNonF, eChain, eTup, eLst, eSl, ptF, optI, aCons, aNil, aStar, itemsD, f1, f2, notF, lenF, tupF, lstF, intF, Ress.bind, deref_non, deref_bl, deref_int, deref_str, deref_tup, deref_ctp, deref_lst, deref_dct, deref_dtt, deref_ins, iSeq, iLt, addF, subF, ixF, ixS, isF, tyB, eqF_str, neF_str, eqF_int, neF_int, Res.ofOpt, Res.bind, atI_0, atI_1, eqE_tup, e1', l0, l8, putD', names8]
  refine fn_rt ?_
  show b__law_tree [some (.obj 0), some (.int k), none, none, none, none, none, none, none] S = _
  unfold b__law_tree
  refine (seq_nx hp).trans ?_
  have hk2 : -(4611686018427387904 : Int) ≤ (k : Int) := by omega
  refine (seq_nx (for_ok (S1 := S1) (xs := dInts 0 k) (by simp [iRange1, fnD, sSeq, sIf, sBind, sRet, sNext, sSet, sExpr, sRaise, e1, e2, eVar, eC, eN, eCall, eAnd, eOr, eNot, eIf, eIsN, eNotN, isNonF, notNonF, eChain, eTup, eLst, eSl, ptF, optI, aCons, aNil, aStar, itemsD, f1, f2, notF, lenF, tupF, lstF, intF, Ress.bind, deref_non, deref_bl, deref_int, deref_str, deref_tup, deref_ctp, deref_lst, deref_dct, deref_dtt, deref_ins, iSeq, iLt, addF, subF, ixF, ixS, isF, tyB, eqF_str, neF_str, eqF_int, neF_int, Res.ofOpt, Res.bind, atI_0, atI_1, eqE_tup, lk, hk2]) e2')).trans ?_
  exact ret_ok (by simp [fnD, sSeq, sIf, sBind, sRet, sNext, sSet, sExpr, sRaise, e1, e2, eVar, eC, eN, eCall, eAnd, eOr, eNot, eIf, eIsN, eNotN, isNonF, notNonF, eChain, eTup, eLst, eSl, ptF, optI, aCons, aNil, aStar, itemsD, f1, f2, notF, lenF, tupF, lstF, intF, Ress.bind, deref_non, deref_bl, deref_int, deref_str, deref_tup, deref_ctp, deref_lst, deref_dct, deref_dtt, deref_ins, iSeq, iLt, addF, subF, ixF, ixS, isF, tyB, eqF_str, neF_str, eqF_int, neF_int, Res.ofOpt, Res.bind, atI_0, atI_1, eqE_tup])
end H

set_option maxHeartbeats 4000000
namespace H
open DL PySem PySem.Spec PyProof.Rows L2
/-! ### what goes into and out of methods -/
end H

set_option maxHeartbeats 4000000
namespace H
open DL PySem PySem.Spec PyProof.Rows L2
/-! ### bare classes -/
end H

set_option maxHeartbeats 4000000
namespace H
open DL PySem PySem.Spec PyProof.Rows L2
/-! ### rows upward, of any things with a name and an upper one -/
def rowG {α : Type} (nm up : α → Str) (l : List α) (n : Str) : List α := (l.reverse.foldl (fun s c => if nm c = s.1 then (up c, s.2 ++ [c]) else s) (n, ([] : List α))).2
theorem rowG_map {α β : Type} (nm up : α → Str) (nm' up' : β → Str) (f : α → β) (h1 : ∀ a, nm' (f a) = nm a) (h2 : ∀ a, up' (f a) = up a) (l : List α) (n : Str) : rowG nm' up' (l.map f) n = (rowG nm up l n).map f := by
  unfold rowG
  rw [← List.map_reverse, List.foldl_map]
  have : ∀ (l : List α) (s : Str × List α), (l.foldl (fun s c => if nm' (f c) = s.1 then (up' (f c), s.2 ++ [f c]) else s) (s.1, s.2.map f)) = ((l.foldl (fun s c => if nm c = s.1 then (up c, s.2 ++ [c]) else s) s).1, (l.foldl (fun s c => if nm c = s.1 then (up c, s.2 ++ [c]) else s) s).2.map f) := by
    intro l
    simp only [h1, h2]
    induction l with
    | nil => intro s; rfl
    | cons a l ih =>
      intro s
      simp only [List.foldl_cons]
      by_cases q : nm a = s.1
      · simp only [q, if_true]
        have := ih (up a, s.2 ++ [a])
        simp only [List.map_append, List.map_cons, List.map_nil] at this
        exact this
      · simp only [q, if_false]
        exact ih s
  have q := this l.reverse (n, [])
  simp only [List.map_nil] at q
  rw [q]
theorem top_ok : W top := ⟨fun S => by kernel_rfl, by decide +kernel⟩
theorem num_ok : W num := ⟨fun S => by kernel_rfl, by decide +kernel⟩
theorem names8_ok : ∀ n ∈ names8, W n := by
  intro n hn
  simp only [names8, List.mem_cons, List.not_mem_nil, or_false] at hn
  rcases hn with rfl | rfl | rfl | rfl | rfl | rfl | rfl | rfl <;> exact ⟨fun S => by kernel_rfl, by decide +kernel⟩
end H

set_option maxHeartbeats 4000000
namespace H
open DL PySem PySem.Spec PyProof.Rows L2
/-! ### codes -/
/-! ### handlers -/
end H

set_option maxHeartbeats 4000000
namespace H
open DL PySem PySem.Spec PyProof.Rows L2
/-! ### drawn classes -/
abbrev g3 : GF := (gtTup (gtCons (gtName 11) (gtCons (gtName 12) (gtCons (gtName 13) gtNil))))
abbrev g4 : GF := (gtTup (gtCons (gtName 6) (gtCons (gtName 7) (gtCons (gtName 8) (gtCons (gtName 9) gtNil)))))
end H

set_option maxHeartbeats 4000000
namespace H
open DL PySem PySem.Spec PyProof.Rows L2
theorem nodup_inj {α : Type} {x : α} : ∀ {l : List α} {i j : Nat}, l.Nodup → l[i]? = some x → l[j]? = some x → i = j
  | [], i, j, _, h, _ => by simp at h
  | a :: l, 0, 0, _, _, _ => rfl
  | a :: l, 0, j + 1, n, h, k => by
    simp only [List.getElem?_cons_zero, Option.some.injEq] at h
    simp only [List.getElem?_cons_succ] at k
    subst h
    exact absurd (List.mem_of_getElem? k) (List.nodup_cons.mp n).1
  | a :: l, i + 1, 0, n, h, k => by
    simp only [List.getElem?_cons_zero, Option.some.injEq] at k
    simp only [List.getElem?_cons_succ] at h
    subst k
    exact absurd (List.mem_of_getElem? h) (List.nodup_cons.mp n).1
  | a :: l, i + 1, j + 1, n, h, k => by
    simp only [List.getElem?_cons_succ] at h k
    rw [nodup_inj (List.nodup_cons.mp n).2 h k]
section
variable {most steps : Nat} {cs : List Cl}
theorem names8_nodup : names8.Nodup := by decide +kernel
theorem names_mem {cs : List Cl} {n : Str} (h : n ∈ names cs) : n = top ∨ ∃ c ∈ cs, c.n = n := by
  rcases List.mem_cons.mp h with h | h
  · exact .inl h
  · obtain ⟨c, a, b⟩ := List.mem_map.mp h
    exact .inr ⟨c, a, b⟩
theorem names_take {cs : List Cl} {i : Nat} {n : Str} (h : n ∈ names (cs.take i)) : n ∈ names cs := by
  rcases names_mem h with rfl | ⟨c, hc, rfl⟩
  · exact List.mem_cons_self
  · exact List.mem_cons_of_mem _ (List.mem_map.mpr ⟨c, List.mem_of_mem_take hc, rfl⟩)
theorem barred_ok : ∀ n ∈ names8, n ∉ barred ∧ n ≠ top := by decide +kernel
end
end H

set_option maxHeartbeats 4000000
namespace H
open DL PySem PySem.Spec PyProof.Rows L2
/-! ### alike -/
inductive Al : Nat → D → Prop
  | non (n : Nat) : Al n .non
  | bl (n : Nat) (b : Bool) : Al n (.bl b)
  | int (n : Nat) (i : Int) : Al n (.int i)
  | str (n : Nat) (x : Str) : Al n (.str x)
  | tup (n : Nat) (ds : List D) (hl : ds.length ≤ 1000) (h : ∀ d ∈ ds, Al n d) : Al (n + 1) (.tup ds)
  | lst (n : Nat) (ds : List D) (hl : ds.length ≤ 1000) (h : ∀ d ∈ ds, Al n d) : Al (n + 1) (.lst ds)
theorem alike_seq {self : FF} {ds : List D} {c : D} (S : Sto) (hc : c = .tup ds ∨ c = .lst ds) (hl : ds.length ≤ 1000) (ih : ∀ d ∈ ds, self [d, d] S = .ok (.bl true) S) : fnD 3 (b__law_alike self) [c, c] S = .ok (.bl true) S := by
  have t1 : tb_tuple_list "tuple" = true := by decide +kernel
  have t2 : tb_tuple_list "list" = true := by decide +kernel
  have t3 : tb_list "tuple" = false := by decide +kernel
  have t4 : tb_list "list" = true := by decide +kernel
  have hln : ds.length < LIM := lim_le (by omega)
  have hln2 : -(4611686018427387904 : Int) ≤ (ds.length : Int) := by omega
  have e0 : eqF (.lst []) (.lst []) = some (.bl true) := by kernel_rfl
  have nb : ∀ b : Bool, neF (.bl b) (.bl b) = some (.bl false) := by intro b; cases b <;> kernel_rfl
  have lc := lcD_pure (g := gtName 2) (fc := (eNot (eCall self (aCons (e2 ixF (eVar 0) (eVar 2)) (aCons (e2 ixF (eVar 1) (eVar 2)) aNil))))) (fe := eVar 2) (ρ := [some c, some c, none]) (S := S) (pc := fun _ => false) (pe := id) (xs := dInts 0 ds.length) (acc := []) (fun x hx => by
    obtain ⟨i, hi⟩ := List.mem_iff_getElem?.mp hx
    obtain ⟨hi1, rfl⟩ := dInts_get hi
    have at1 : ixF c (.int (0 + (i : Int))) = some ds[i] := by
      have e : (0 : Int) + (i : Int) = (i : Int) := by omega
      rw [e]
      have := DL.atI_nat (xs := ds) hi1
      rw [List.getElem?_eq_getElem hi1] at this
      rcases hc with rfl | rfl <;> exact this
    have dd : deref S c = c := by rcases hc with rfl | rfl <;> rfl
    refine ⟨_, rfl, not_ok (b := true) (call_ok (ds := [ds[i], ds[i]]) (cons_ok (e2_ok (var_ok rfl) (var_ok rfl) (by rw [dd]; exact at1)) (cons_ok (e2_ok (var_ok rfl) (var_ok rfl) (by rw [dd]; exact at1)) nil_ok)) (ih _ (List.getElem_mem hi1))), fun h => by cases h⟩)
  have hf : (dInts 0 ds.length).filter (fun _ => false) = [] := by simp
  rw [hf] at lc
  refine fn_rt ?_
  show b__law_alike self [some c, some c, none] S = _
  unfold b__law_alike
  rcases hc with rfl | rfl
  · refine seq_rt ((if_t (S' := S) (by simp [fnD, sSeq, sIf, sBind, sRet, sNext, sSet, sExpr, sRaise, e1, e2, eVar, eC, eN, eCall, eAnd, eOr, eNot, eIf, eIsN, eNotN, isNonF, notNonF, eChain, eTup, eLst, eSl, ptF, optI, aCons, aNil, aStar, itemsD, f1, f2, notF, lenF, tupF, lstF, intF, Ress.bind, deref_non, deref_bl, deref_int, deref_str, deref_tup, deref_ctp, deref_lst, deref_dct, deref_dtt, deref_ins, iSeq, iLt, addF, subF, ixF, ixS, isF, tyB, eqF_str, neF_str, eqF_int, neF_int, Res.ofOpt, Res.bind, atI_0, atI_1, eqE_tup, t1])).trans ?_)
    refine (seq_skip (S' := S) (by simp [fnD, sSeq, sIf, sBind, sRet, sNext, sSet, sExpr, sRaise, e1, e2, eVar, eC, eN, eCall, eAnd, eOr, eNot, eIf, eIsN, eNotN, isNonF, notNonF, eChain, eTup, eLst, eSl, ptF, optI, aCons, aNil, aStar, itemsD, f1, f2, notF, lenF, tupF, lstF, intF, Ress.bind, deref_non, deref_bl, deref_int, deref_str, deref_tup, deref_ctp, deref_lst, deref_dct, deref_dtt, deref_ins, iSeq, iLt, addF, subF, ixF, ixS, isF, tyB, eqF_str, neF_str, eqF_int, neF_int, Res.ofOpt, Res.bind, atI_0, atI_1, eqE_tup, t1, t3, nb])).trans ?_
    refine (seq_skip (S' := S) (by simp [fnD, sSeq, sIf, sBind, sRet, sNext, sSet, sExpr, sRaise, e1, e2, eVar, eC, eN, eCall, eAnd, eOr, eNot, eIf, eIsN, eNotN, isNonF, notNonF, eChain, eTup, eLst, eSl, ptF, optI, aCons, aNil, aStar, itemsD, f1, f2, notF, lenF, tupF, lstF, intF, Ress.bind, deref_non, deref_bl, deref_int, deref_str, deref_tup, deref_ctp, deref_lst, deref_dct, deref_dtt, deref_ins, iSeq, iLt, addF, subF, ixF, ixS, isF, tyB, eqF_str, neF_str, eqF_int, neF_int, Res.ofOpt, Res.bind, atI_0, atI_1, eqE_tup])).trans ?_
    refine ret_ok (e2_ok (lc_ok (S1 := S) (range_ok (n := ds.length) (cons_ok (eN_ok (cons_ok (var_ok rfl) nil_ok) rfl) nil_ok) hl) lc) (lst_ok nil_ok (by simp)) ?_)
    simpa [deref_lst] using e0
  · refine seq_rt ((if_t (S' := S) (by simp [fnD, sSeq, sIf, sBind, sRet, sNext, sSet, sExpr, sRaise, e1, e2, eVar, eC, eN, eCall, eAnd, eOr, eNot, eIf, eIsN, eNotN, isNonF, notNonF, eChain, eTup, eLst, eSl, ptF, optI, aCons, aNil, aStar, itemsD, f1, f2, notF, lenF, tupF, lstF, intF, Ress.bind, deref_non, deref_bl, deref_int, deref_str, deref_tup, deref_ctp, deref_lst, deref_dct, deref_dtt, deref_ins, iSeq, iLt, addF, subF, ixF, ixS, isF, tyB, eqF_str, neF_str, eqF_int, neF_int, Res.ofOpt, Res.bind, atI_0, atI_1, eqE_tup, t2])).trans ?_)
    refine (seq_skip (S' := S) (by simp [fnD, sSeq, sIf, sBind, sRet, sNext, sSet, sExpr, sRaise, e1, e2, eVar, eC, eN, eCall, eAnd, eOr, eNot, eIf, eIsN, eNotN, isNonF, notNonF, eChain, eTup, eLst, eSl, ptF, optI, aCons, aNil, aStar, itemsD, f1, f2, notF, lenF, tupF, lstF, intF, Ress.bind, deref_non, deref_bl, deref_int, deref_str, deref_tup, deref_ctp, deref_lst, deref_dct, deref_dtt, deref_ins, iSeq, iLt, addF, subF, ixF, ixS, isF, tyB, eqF_str, neF_str, eqF_int, neF_int, Res.ofOpt, Res.bind, atI_0, atI_1, eqE_tup, t2, t4, nb])).trans ?_
    refine (seq_skip (S' := S) (by simp [fnD, sSeq, sIf, sBind, sRet, sNext, sSet, sExpr, sRaise, e1, e2, eVar, eC, eN, eCall, eAnd, eOr, eNot, eIf, eIsN, eNotN, isNonF, notNonF, eChain, eTup, eLst, eSl, ptF, optI, aCons, aNil, aStar, itemsD, f1, f2, notF, lenF, tupF, lstF, intF, Ress.bind, deref_non, deref_bl, deref_int, deref_str, deref_tup, deref_ctp, deref_lst, deref_dct, deref_dtt, deref_ins, iSeq, iLt, addF, subF, ixF, ixS, isF, tyB, eqF_str, neF_str, eqF_int, neF_int, Res.ofOpt, Res.bind, atI_0, atI_1, eqE_tup])).trans ?_
    refine ret_ok (e2_ok (lc_ok (S1 := S) (range_ok (n := ds.length) (cons_ok (eN_ok (cons_ok (var_ok rfl) nil_ok) rfl) nil_ok) hl) lc) (lst_ok nil_ok (by simp)) ?_)
    simpa [deref_lst] using e0
theorem alike_ok : ∀ (n : Nat) (d : D) (S : Sto), Al n d → f__law_alike (n + 1) [d, d] S = .ok (.bl true) S := by
  have t1 : tb_tuple_list "NoneType" = false := by decide +kernel
  have t2 : tb_tuple_list "bool" = false := by decide +kernel
  have t3 : tb_tuple_list "int" = false := by decide +kernel
  have t4 : tb_tuple_list "str" = false := by decide +kernel
  have s2 : tb_str "bool" = false := by decide +kernel
  have s3 : tb_str "int" = false := by decide +kernel
  have s4 : tb_str "str" = true := by decide +kernel
  have s1 : tb_str "NoneType" = false := by decide +kernel
  have i2 : tb_int "bool" = true := by decide +kernel
  have i3 : tb_int "int" = true := by decide +kernel
  have b2 : tb_bool "bool" = true := by decide +kernel
  have b3 : tb_bool "int" = false := by decide +kernel
  have nb : ∀ b : Bool, eqF (.bl b) (.bl b) = some (.bl true) := by intro b; cases b <;> kernel_rfl
  have nn : eqF .non .non = some (.bl true) := by kernel_rfl
  intro n
  induction n with
  | zero =>
    intro d S h
    cases h <;> simp [f__law_alike, b__law_alike, fnD, sSeq, sIf, sBind, sRet, sNext, sSet, sExpr, sRaise, e1, e2, eVar, eC, eN, eCall, eAnd, eOr, eNot, eIf, eIsN, eNotN, isNonF, notNonF, eChain, eTup, eLst, eSl, ptF, optI, aCons, aNil, aStar, itemsD, f1, f2, notF, lenF, tupF, lstF, intF, Ress.bind, deref_non, deref_bl, deref_int, deref_str, deref_tup, deref_ctp, deref_lst, deref_dct, deref_dtt, deref_ins, iSeq, iLt, addF, subF, ixF, ixS, isF, tyB, eqF_str, neF_str, eqF_int, neF_int, Res.ofOpt, Res.bind, atI_0, atI_1, eqE_tup, t1, t2, t3, t4, s1, s2, s3, s4, i2, i3, b2, b3, nb, nn]
  | succ n ih =>
    intro d S h
    cases h with
    | tup _ ds hl h => exact alike_seq S (.inl rfl) hl fun d hd => ih d S (h d hd)
    | lst _ ds hl h => exact alike_seq S (.inr rfl) hl fun d hd => ih d S (h d hd)
    | non => simp [f__law_alike, b__law_alike, fnD, sSeq, sIf, sBind, sRet, sNext, sSet, sExpr, sRaise, e1, e2, eVar, eC, eN, eCall, eAnd, eOr, eNot, eIf, eIsN, eNotN, isNonF, notNonF, eChain, eTup, eLst, eSl, ptF, optI, aCons, aNil, aStar, itemsD, f1, f2, notF, lenF, tupF, lstF, intF, Ress.bind, deref_non, deref_bl, deref_int, deref_str, deref_tup, deref_ctp, deref_lst, deref_dct, deref_dtt, deref_ins, iSeq, iLt, addF, subF, ixF, ixS, isF, tyB, eqF_str, neF_str, eqF_int, neF_int, Res.ofOpt, Res.bind, atI_0, atI_1, eqE_tup, t1, t2, t3, t4, s1, s2, s3, s4, i2, i3, b2, b3, nb, nn]
    | bl _ b => simp [f__law_alike, b__law_alike, fnD, sSeq, sIf, sBind, sRet, sNext, sSet, sExpr, sRaise, e1, e2, eVar, eC, eN, eCall, eAnd, eOr, eNot, eIf, eIsN, eNotN, isNonF, notNonF, eChain, eTup, eLst, eSl, ptF, optI, aCons, aNil, aStar, itemsD, f1, f2, notF, lenF, tupF, lstF, intF, Ress.bind, deref_non, deref_bl, deref_int, deref_str, deref_tup, deref_ctp, deref_lst, deref_dct, deref_dtt, deref_ins, iSeq, iLt, addF, subF, ixF, ixS, isF, tyB, eqF_str, neF_str, eqF_int, neF_int, Res.ofOpt, Res.bind, atI_0, atI_1, eqE_tup, t1, t2, t3, t4, s1, s2, s3, s4, i2, i3, b2, b3, nb, nn]
    | int _ i => simp [f__law_alike, b__law_alike, fnD, sSeq, sIf, sBind, sRet, sNext, sSet, sExpr, sRaise, e1, e2, eVar, eC, eN, eCall, eAnd, eOr, eNot, eIf, eIsN, eNotN, isNonF, notNonF, eChain, eTup, eLst, eSl, ptF, optI, aCons, aNil, aStar, itemsD, f1, f2, notF, lenF, tupF, lstF, intF, Ress.bind, deref_non, deref_bl, deref_int, deref_str, deref_tup, deref_ctp, deref_lst, deref_dct, deref_dtt, deref_ins, iSeq, iLt, addF, subF, ixF, ixS, isF, tyB, eqF_str, neF_str, eqF_int, neF_int, Res.ofOpt, Res.bind, atI_0, atI_1, eqE_tup, t1, t2, t3, t4, s1, s2, s3, s4, i2, i3, b2, b3, nb, nn]
    | str _ x => simp [f__law_alike, b__law_alike, fnD, sSeq, sIf, sBind, sRet, sNext, sSet, sExpr, sRaise, e1, e2, eVar, eC, eN, eCall, eAnd, eOr, eNot, eIf, eIsN, eNotN, isNonF, notNonF, eChain, eTup, eLst, eSl, ptF, optI, aCons, aNil, aStar, itemsD, f1, f2, notF, lenF, tupF, lstF, intF, Ress.bind, deref_non, deref_bl, deref_int, deref_str, deref_tup, deref_ctp, deref_lst, deref_dct, deref_dtt, deref_ins, iSeq, iLt, addF, subF, ixF, ixS, isF, tyB, eqF_str, neF_str, eqF_int, neF_int, Res.ofOpt, Res.bind, atI_0, atI_1, eqE_tup, t1, t2, t3, t4, s1, s2, s3, s4, i2, i3, b2, b3, nb, nn]
theorem Al.mono : ∀ {n m : Nat} {d : D}, Al n d → n ≤ m → Al m d
  | _, _, _, .non _, _ => .non _
  | _, _, _, .bl _ b, _ => .bl _ b
  | _, _, _, .int _ i, _ => .int _ i
  | _, _, _, .str _ x, _ => .str _ x
  | _, m + 1, _, .tup n ds hl h, hm => .tup m ds hl fun d hd => (h d hd).mono (by omega)
  | _, m + 1, _, .lst n ds hl h, hm => .lst m ds hl fun d hd => (h d hd).mono (by omega)
theorem alike9 {n : Nat} {d : D} (S : Sto) (h : Al n d) (hn : n ≤ 8) : f__law_alike 9 [d, d] S = .ok (.bl true) S := alike_ok 8 d S (h.mono hn)
theorem al_strs (xs : List Str) (h : xs.length ≤ 1000) : Al 1 (.tup (xs.map .str)) := .tup 0 _ (by simpa using h) fun d hd => by
  obtain ⟨x, _, rfl⟩ := List.mem_map.mp hd
  exact .str _ _
/-! ### houses in the store -/
def HAt (S : Sto) (n : Nat) (cs : List Cl) : Prop := S[n]? = some (hs0 cs)
theorem told_ok {S S1 : Sto} {n : Nat} {cs : List Cl} {f : EF} {ρ : DEnv} (h : f ρ S = .ok (.obj n) S1) (hh : HAt S1 n cs) : eFld [("House" : Str)] ("told" : Str) f ρ S = .ok (dCs cs) S1 := by
  have hh' : S1[n]? = some (.ins "House" [("told", dCs cs)]) := hh
  have c : ("House" : Str) ∈ [("House" : Str)] := List.mem_singleton.mpr rfl
  simp [eFld, h, insOf, hh']
theorem needh_ok {S : Sto} {n : Nat} {cs : List Cl} (hh : HAt S n cs) : f_need_house [.obj n] S = .ok .non S := by
  have hh' : S[n]? = some (.ins "House" [("told", dCs cs)]) := hh
  have t : to_House "House" = some true := by decide +kernel
  refine fn_nx (ρ' := [some (.obj n)]) ?_
  show b_need_house [some (.obj n)] S = _
  unfold b_need_house
  exact if_f (not_ok (b := true) (e1_ok (var_ok rfl) (by rw [deref_objI hh']; simp [isF, t])))
theorem needn_ok {S : Sto} {n : Nat} {cs : List Cl} {s : Str} (hh : HAt S n cs) (hl : cs.length ≤ 1000) (hs : s ∈ names cs) : f_need_name [.obj n, .str s] S = .ok .non S := by
  have t : tb_str "str" = true := by decide +kernel
  have m := notInF_lst (names cs) s
  simp only [hs, decide_true] at m
  refine fn_nx (ρ' := [some (.obj n), some (.str s)]) ?_
  show b_need_name [some (.obj n), some (.str s)] S = _
  unfold b_need_name
  exact if_f (or_ff (S1 := S) (not_ok (b := true) (e1_ok (var_ok rfl) (by simp [deref_str, isF, tyB, t]))) (e2_ok (var_ok rfl) (call_ok (cons_ok (told_ok (var_ok rfl) hh) nil_ok) (names_ok cs S hl)) (by simpa [deref_str, deref_lst] using m)))
/-- the names upward -/
def ups (cs : List Cl) (s : Str) : List Str := (rowOf cs s).map Cl.n ++ [top]
end H

set_option maxHeartbeats 4000000
namespace H
open DL PySem PySem.Spec PyProof.Rows L2
/-! ### what two classes have in common, from either side -/
section
variable {most steps : Nat} {cs : List Cl}
end
/-- the store behind the making of a house -/
theorem house_at {cells : List Int} {cs : List Cl} {S : Sto} (h : Row cells [] S) : HAt (S ++ [hs0 cs]) 1 cs ∧ S.length = 1 ∧ Row cells [hs0 cs] (S ++ [hs0 cs]) := by
  obtain ⟨n, s, p, rfl⟩ := h
  exact ⟨rfl, rfl, n, s, p, rfl⟩
theorem HAt.row {cells : List Int} {cs : List Cl} {S : Sto} {T : Sto} (h : Row cells (hs0 cs :: T) S) : HAt S 1 cs := by
  obtain ⟨n, s, p, rfl⟩ := h
  rfl
theorem new_row (cells : List Int) (k : Int) (r : Option D) (rest : DEnv) : sNewO 1 (aCons (eVar 0) (aCons (eC (.int 0)) (aCons (eC (.int k)) (aCons (eC (.int 0)) aNil)))) (some (.lst (cells.map D.int)) :: r :: rest) [] = .nx (some (.lst (cells.map D.int)) :: some (.obj 0) :: rest) (row cells 0 k 0 []) := by
  simp [sNewO, aCons, aNil, eVar, eC, row]
end H

set_option maxHeartbeats 4000000
namespace H
open DL PySem PySem.Spec PyProof.Rows L2
/-! ### rows upward in trees -/
theorem rowOf_app (cs : List Cl) (c : Cl) (s : Str) : rowOf (cs ++ [c]) s = if c.n = s then c :: rowOf cs c.u else rowOf cs s := by
  have gen : ∀ (l : List Cl) (s : Str) (acc : List Cl), (l.foldl (fun s c => if c.n = s.1 then (c.u, s.2 ++ [c]) else s) (s, acc)).2 = acc ++ (l.foldl (fun s c => if c.n = s.1 then (c.u, s.2 ++ [c]) else s) (s, [])).2 := by
    intro l
    induction l with
    | nil => intro s acc; simp
    | cons a l ih =>
      intro s acc
      simp only [List.foldl_cons]
      by_cases h : a.n = s
      · simp only [h, if_true, List.nil_append]
        rw [ih a.u (acc ++ [a]), ih a.u [a]]
        simp
      · simp only [h, if_false]
        exact ih s acc
  unfold rowOf
  simp only [List.reverse_append, List.reverse_cons, List.reverse_nil, List.nil_append, List.cons_append, List.foldl_cons]
  by_cases h : c.n = s
  · simp only [h, if_true]
    exact gen cs.reverse c.u [c]
  · simp only [h, if_false]
theorem ups_app (cs : List Cl) (c : Cl) (s : Str) : ups (cs ++ [c]) s = if c.n = s then s :: ups cs c.u else ups cs s := by
  unfold ups
  rw [rowOf_app]
  by_cases h : c.n = s
  · simp [h]
  · simp [h]
theorem ups_names {cs : List Cl} {s x : Str} (h : x ∈ ups cs s) : x ∈ names cs := by
  rcases List.mem_append.mp h with h | h
  · obtain ⟨c, hc, rfl⟩ := List.mem_map.mp h
    exact List.mem_cons_of_mem _ (List.mem_map_of_mem (rowOf_mem hc))
  · simp at h; subst h; exact List.mem_cons_self
/-- a tree: names are unlike, uppers stand ahead -/
inductive Tr : List Cl → Prop
  | nil : Tr []
  | app (cs : List Cl) (c : Cl) (h : Tr cs) (hn : c.n ∉ names cs) (hu : c.u ∈ names cs) : Tr (cs ++ [c])
theorem names_app (cs : List Cl) (c : Cl) : names (cs ++ [c]) = names cs ++ [c.n] := by simp [names]
theorem ups_trans {cs : List Cl} (t : Tr cs) : ∀ {a b x}, b ∈ ups cs a → x ∈ ups cs b → x ∈ ups cs a := by
  induction t with
  | nil => intro a b x h k; simp [ups, rowOf] at h k ⊢; exact k
  | app cs c h hn hu ih =>
    intro a b x hb hx
    rw [ups_app] at hb hx ⊢
    by_cases ea : c.n = a
    · rw [if_pos ea] at hb ⊢
      rcases List.mem_cons.mp hb with hb | hb
      · subst hb
        rw [if_pos ea] at hx
        exact hx
      · have : c.n ≠ b := fun q => hn (q ▸ ups_names hb)
        rw [if_neg this] at hx
        exact List.mem_cons_of_mem _ (ih hb hx)
    · rw [if_neg ea] at hb ⊢
      have : c.n ≠ b := fun q => hn (q ▸ ups_names hb)
      rw [if_neg this] at hx
      exact ih hb hx
section
variable {most steps : Nat} {cs : List Cl}
theorem tr_take (h : HouseOk cs) : ∀ k, k ≤ cs.length → Tr (cs.take k) := by
  intro k
  induction k with
  | zero => intro _; simpa using Tr.nil
  | succ k ih =>
    intro hk
    have hi : k < cs.length := by omega
    rw [List.take_add_one, List.getElem?_eq_getElem hi]
    have c := h.cl k cs[k] (List.getElem?_eq_getElem hi)
    exact .app _ _ (ih (by omega)) c.new c.up
theorem HouseOk.tr (h : HouseOk cs) : Tr cs := by
  have := tr_take h cs.length (Nat.le_refl _)
  rwa [List.take_length] at this
theorem Tr.nodup (h : Tr cs) : (names cs).Nodup := by
  induction h with
  | nil => simp [names]
  | app cs c h hn hu ih =>
    rw [names_app, List.nodup_append]
    exact ⟨ih, by simp, fun a ha b hb => by simp at hb; subst hb; exact fun q => hn (q ▸ ha)⟩
end
/-! ### kinds -/
abbrev kU : Str := "unset"
abbrev kO : Str := "odd"
abbrev kN : Str := "num"
abbrev kE : Str := "none"
/-- which kind fits which -/
def Fit (cs : List Cl) (a b : Str) : Prop := a = b ∨ b = kU ∨ (b = kO ∧ a ≠ kU) ∨ ((a ≠ kU ∧ a ≠ kO ∧ a ≠ kN) ∧ (b ≠ kN ∧ b ≠ kE) ∧ (a = kE ∨ b ∈ ups cs a))
instance (cs : List Cl) (a b : Str) : Decidable (Fit cs a b) := by unfold Fit; infer_instance
theorem Fit.refl {cs : List Cl} (a : Str) : Fit cs a a := .inl rfl
theorem Fit.trans {cs : List Cl} (t : Tr cs) {a b c : Str} (h : Fit cs a b) (k : Fit cs b c) : Fit cs a c := by
  rcases h with rfl | rfl | ⟨rfl, ha⟩ | ⟨⟨a1, a2, a3⟩, ⟨b1, b2⟩, h⟩
  · exact k
  · rcases k with rfl | rfl | ⟨_, q⟩ | ⟨⟨q, _⟩, _⟩
    · exact .inr (.inl rfl)
    · exact .inr (.inl rfl)
    · exact absurd rfl q
    · exact absurd rfl q
  · rcases k with rfl | rfl | ⟨rfl, q⟩ | ⟨⟨_, q, _⟩, _⟩
    · exact .inr (.inr (.inl ⟨rfl, ha⟩))
    · exact .inr (.inl rfl)
    · exact .inr (.inr (.inl ⟨rfl, ha⟩))
    · exact absurd rfl q
  · rcases k with rfl | rfl | ⟨rfl, q⟩ | ⟨⟨q1, q2, q3⟩, ⟨c1, c2⟩, k⟩
    · exact .inr (.inr (.inr ⟨⟨a1, a2, a3⟩, ⟨b1, b2⟩, h⟩))
    · exact .inr (.inl rfl)
    · exact .inr (.inr (.inl ⟨rfl, a1⟩))
    · refine .inr (.inr (.inr ⟨⟨a1, a2, a3⟩, ⟨c1, c2⟩, ?_⟩))
      rcases k with rfl | k
      · exact absurd rfl b2
      · rcases h with rfl | h
        · exact .inl rfl
        · exact .inr (ups_trans t h k)
end H

set_option maxHeartbeats 4000000
namespace H
open DL PySem PySem.Spec PyProof.Rows L2
end H

set_option maxHeartbeats 4000000
namespace H
open DL PySem PySem.Spec PyProof.Rows L2
/-! ### joins -/
end H

set_option maxHeartbeats 4000000
namespace H
open DL PySem PySem.Spec PyProof.Rows L2
/-! ### bare trees make houses -/
def toCl (p : Str × Str) : Cl := ⟨p.1, p.2, [], []⟩
theorem tree_names (l : List (Str × Str)) : names (l.map toCl) = top :: l.map (·.1) := by unfold names; rw [List.map_map]; rfl
theorem nameW8 {i : Nat} {n : Str} (h : n ∈ top :: names8.take i) : W n := by
  rcases List.mem_cons.mp h with rfl | h
  · exact top_ok
  · exact names8_ok _ (List.mem_of_mem_take h)
theorem tree_house {l : List (Str × Str)} (hT : TreeOk l) (h0 : 0 < l.length) (h8 : l.length ≤ 8) : HouseOk (l.map toCl) := by
  refine ⟨by simpa using h8, fun q => ?_, fun i c hc => ?_⟩
  · rw [List.map_eq_nil_iff] at q
    rw [q] at h0; simp at h0
  · rw [List.getElem?_map] at hc
    cases hp : l[i]? with
    | none => rw [hp] at hc; cases hc
    | some p =>
      rw [hp] at hc
      cases hc
      have hi : i < l.length := (List.getElem?_eq_some_iff.mp hp).1
      have hn : (names8.take l.length)[i]? = some p.1 := by rw [← hT.nm, List.getElem?_map, hp]; rfl
      have hat : names8[i]? = some p.1 := by
        rw [List.getElem?_take, if_pos hi] at hn
        exact hn
      have hm8 := List.mem_of_getElem? hat
      have hup := hT.up i p hp
      have nt : names ((l.map toCl).take i) = top :: names8.take i := by
        rw [← List.map_take, tree_names, List.map_take, hT.nm, List.take_take, Nat.min_eq_left (by omega)]
      refine ⟨names8_ok _ hm8, (barred_ok _ hm8).1, ?_, nameW8 hup, by rw [nt]; exact hup, ⟨by simp [toCl], by simp [toCl], by simp [toCl], by simp [toCl]⟩, by simp [toCl], by simp [toCl], by simp [toCl]⟩
      rw [nt]
      intro q
      rcases List.mem_cons.mp q with q | q
      · exact (barred_ok _ hm8).2 q
      · obtain ⟨j, hj⟩ := List.mem_iff_getElem?.mp q
        rw [List.getElem?_take] at hj
        split at hj
        · have := nodup_inj names8_nodup hj hat
          omega
        · cases hj
/-! ### options -/
abbrev Op := List Str
def dO (o : Op) : D := .tup (o.map .str)
theorem eqD_op : ∀ (a b : Op), eqD (dO a) (dO b) = decide (a = b)
  | [], [] => by simp [dO, eqD, toPy, toPys, PyData.eqv, PyData.eqvAll]
  | [], b :: r => by simp [dO, eqD, toPy, toPys, PyData.eqv, PyData.eqvAll]
  | a :: r, [] => by simp [dO, eqD, toPy, toPys, PyData.eqv, PyData.eqvAll]
  | a :: r, b :: s => by
    have ih := eqD_op r s
    simp only [dO, eqD, toPy, List.map_cons, toPys, PyData.eqv, PyData.eqvAll] at ih ⊢
    rw [ih, beq_dec]
    by_cases h1 : a = b <;> by_cases h2 : r = s <;> simp [h1, h2]
theorem op_sh {o : Op} (h : ∀ k ∈ o, okD 0 (.str k) = true) : okD 1 (dO o) = true := okD_tup fun d hd => by
  obtain ⟨k, hk, rfl⟩ := List.mem_map.mp hd
  exact h k hk
theorem inSq_op {o : Op} {l : List Op} (ho : ∀ k ∈ o, okD 0 (.str k) = true) (hl : ∀ p ∈ l, ∀ k ∈ p, okD 0 (.str k) = true) : inSq (dO o) (l.map dO) = some (decide (o ∈ l)) := by
  unfold inSq
  have s1 := okD_sh (op_sh ho) (by decide)
  have s2 : shD (.lst (l.map dO)) = true := okD_sh (okD_lst (n := 1) fun d hd => by
    obtain ⟨p, hp, rfl⟩ := List.mem_map.mp hd
    exact op_sh (hl p hp)) (by decide)
  rw [if_pos (.inr (by rw [s1, s2]; rfl))]
  congr 1
  clear hl s2
  induction l with
  | nil => rfl
  | cons a r ih =>
    simp only [List.map_cons, List.any_cons, ih, eqD_op]
    by_cases h : a = o
    · simp [h]
    · have : ¬ o = a := fun q => h q.symm
      simp [h, this]
end H

set_option maxHeartbeats 4000000
namespace H
open DL PySem PySem.Spec PyProof.Rows L2
/-! ### what takes what -/
def tk (cs : List Cl) (o ks : Op) : Bool := decide (o.length = ks.length) && (ks.zip o).all fun p => decide (Fit cs p.1 p.2)
end H

set_option maxHeartbeats 4000000
namespace H
open DL PySem PySem.Spec PyProof.Rows L2
/-! ### loops that hand back at the first hit, loops that make a list -/
theorem lcDs_filt {β : Type} {g : GF} {fc fe : EF} {ρ : DEnv} {S : Sto} (emb val : β → D) (p : β → Bool) : ∀ {l : List β} {acc : List D}, acc.length + l.length < LIM → (∀ a ∈ l, ∃ ρ1, g (emb a) ρ = some ρ1 ∧ fc ρ1 S = .ok (.bl (p a)) S ∧ (p a = true → fe ρ1 S = .ok (val a) S)) →
    lcDs g fc fe (l.map emb) acc ρ S = .ok (.lst (acc ++ (l.filter p).map val)) S
  | [], acc, _, _ => by simp [lcDs]
  | a :: l, acc, hl, h => by
    obtain ⟨ρ1, e1, e2, e3⟩ := h a List.mem_cons_self
    simp only [List.length_cons] at hl
    have ha : acc.length < LIM := by omega
    cases q : p a with
    | true =>
      rw [q] at e2
      simp only [List.map_cons, lcDs, e1, e2, e3 q, if_pos ha]
      rw [lcDs_filt emb val p (by simp only [List.length_append, List.length_cons, List.length_nil]; omega) fun b hb => h b (List.mem_cons_of_mem _ hb)]
      simp [q]
    | false =>
      rw [q] at e2
      simp only [List.map_cons, lcDs, e1, e2]
      rw [lcDs_filt emb val p (by omega) fun b hb => h b (List.mem_cons_of_mem _ hb)]
      simp [q]
theorem lcD2_filt {α β : Type} {g g1 : GF} {fi1 : IF} {vs1 : List Nat} {fc1 fe : EF} {ρ : DEnv} {S : Sto} (emb : α → D) (inner : α → List β) (embB : β → D) (val : α → β → D) (p : α → β → Bool) : ∀ {l : List α} {acc : List D}, acc.length + (l.flatMap inner).length < LIM →
    (∀ a ∈ l, ∃ ρ1, g (emb a) ρ = some ρ1 ∧ fi1 ρ1 S = .ok ((inner a).map embB) S ∧ ∀ b ∈ inner a, ∃ ρ2, g1 (embB b) (wipeD ρ1 vs1) = some ρ2 ∧ fc1 ρ2 S = .ok (.bl (p a b)) S ∧ (p a b = true → fe ρ2 S = .ok (val a b) S)) →
    lcD2 g eYes fi1 vs1 g1 fc1 fe (l.map emb) acc ρ S = .ok (.lst (acc ++ l.flatMap fun a => ((inner a).filter (p a)).map (val a))) S
  | [], acc, _, _ => by simp [lcD2]
  | a :: l, acc, hl, h => by
    obtain ⟨ρ1, e1, e2, e3⟩ := h a List.mem_cons_self
    simp only [List.flatMap_cons, List.length_append] at hl
    have i := lcDs_filt (g := g1) (fc := fc1) (fe := fe) (ρ := wipeD ρ1 vs1) (S := S) embB (val a) (p a) (l := inner a) (acc := acc) (by omega) e3
    have hf : ((inner a).filter (p a)).length ≤ (inner a).length := List.length_filter_le _ _
    simp only [List.map_cons, lcD2, e1, eYes, e2]
    rw [i]
    simp only
    rw [lcD2_filt emb inner embB val p (by simp only [List.length_append, List.length_map]; omega) fun b hb => h b (List.mem_cons_of_mem _ hb)]
    simp
/-! ### options that take, doubles -/
/-! ### no double: one that is nearest -/
/-! ### papers -/
abbrev Val := Option (Nat × Option Nat)
def dV : Val → D
  | none => .tup [.str "none"]
  | some (i, none) => .tup [.str "one", .int i]
  | some (a, some b) => .tup [.str "two", .int a, .int b]
end H

set_option maxHeartbeats 4000000
namespace H
open DL PySem PySem.Spec PyProof.Rows L2
theorem ne_nilG {ds : List D} (sh : shD (.lst ds) = true) : neF (.lst ds) (.lst []) = some (.bl !ds.isEmpty) := by
  have sh0 : shD (.lst []) = true := by decide +kernel
  unfold neF
  rw [if_pos (.inr ⟨sh, sh0⟩), eqD_nilL]
end H

set_option maxHeartbeats 4000000
namespace H
open DL PySem PySem.Spec PyProof.Rows L2
inductive It : D → Prop
  | int (i : Nat) : It (.int i)
  | bl (b : Bool) : It (.bl b)
  | non : It .non
  | lst (ds : List D) : It (.lst ds)
section
variable {S : Sto} {n : Nat} {cs : List Cl} {l : List Op} {ks : Op}
end
/-! ### papers shown -/
/-! ### values that show nothing -/
end H

set_option maxHeartbeats 4000000
namespace H
open DL PySem PySem.Spec PyProof.Rows L2
/-! ### sorted words -/
/-! ### all kinds, by layers -/
def E (sl : List Str) : Nat → List Op
  | 0 => [[]]
  | t + 1 => (E sl t).flatMap fun ks => sl.map fun s => ks ++ [s]
end H

set_option maxHeartbeats 4000000
namespace H
open DL PySem PySem.Spec PyProof.Rows L2
/-! ### classes whose fields and methods are any values -/
structure TC where
  n : Str
  u : Str
  f : D
  m : D
def dT (t : TC) : D := .tup [.str t.n, .str t.u, t.f, t.m]
/-! ### loops that raise -/
section
variable {cs : List Cl} {L : List TC} {p : Nat} {t : TC} {ns : List Str} {S : Sto} {x4 : Option D}
end
/-! ### the fields of such classes -/
section
variable {cs : List Cl} {t : TC} {ns : List Str} {S : Sto}
end
end H

set_option maxHeartbeats 4000000
namespace H
open DL PySem PySem.Spec PyProof.Rows L2
/-! ### no words -/
/-! ### fields that are none -/
section
variable {ns seen : List Str} {x0 x2 x5 : Option D} {S : Sto}
end
/-! ### methods that are none -/
section
variable {cs : List Cl} {t : TC} {ns : List Str} {S : Sto} {MS : List D} {q : Nat} {v : D}
end
end H

set_option maxHeartbeats 4000000
namespace H
open DL PySem PySem.Spec PyProof.Rows L2
/-! ### drawn classes with one told otherwise -/
section
variable {most steps : Nat} {cs : List Cl}
theorem Kind.mono {ns ns' : List Str} (h : ∀ n ∈ ns, n ∈ ns') {k : Str} (hk : Kind ns k) : Kind ns' k := ⟨hk.1, hk.2.imp id (h k)⟩
theorem FieldsOk.mono {ns ns' : List Str} {c : Cl} (h : ∀ n ∈ ns, n ∈ ns') (hf : FieldsOk cs ns c) : FieldsOk cs ns' c := ⟨hf.len, fun f q => ⟨(hf.ok f q).1, (hf.ok f q).2.mono h⟩, hf.new, hf.dup⟩
theorem MethOk.mono {ns ns' : List Str} {c : Cl} {i : Nat} {m : Me} (h : ∀ n ∈ ns, n ∈ ns') (hm : MethOk cs ns c i m) : MethOk cs ns' c i m := ⟨hm.w, hm.new, hm.len, fun k q => (hm.ins k q).mono h, hm.out.mono h, hm.same⟩
theorem row_skip (u : Str) : ∀ (r l : List Cl), (∀ c ∈ r, c.n ≠ u) → rowOf (l ++ r) u = rowOf l u
  | [], l, _ => by simp
  | c :: r, l, h => by
    rw [show l ++ c :: r = (l ++ [c]) ++ r by simp, row_skip u r (l ++ [c]) fun c' hc' => h c' (List.mem_cons_of_mem _ hc'), rowOf_app, if_neg (h c List.mem_cons_self)]
end
/-! ### what is told of them -/
def part (fX fY : EF) : EF := (e2 addF (e2 addF (eSl slF (eVar 2) (eC .non) (e1 ptF (eVar 3))) (eLst (aCons (eTup (aCons (eVar 4) (aCons (eVar 5) (aCons fX (aCons fY aNil))))) aNil))) (eSl slF (eVar 2) (e1 ptF (e2 addF (eVar 3) (eC (.int 1)))) (eC .non)))
end H

set_option maxHeartbeats 4000000
namespace H
open DL PySem PySem.Spec PyProof.Rows L2
/-! ### classes without their codes -/
def er (m : Me) : Me := ⟨m.w, m.ins, m.out, .non, .non⟩
/-! ### the first code that cannot stand -/
/-! ### how a code fails -/
section
variable {C : D} {cs : List Cl} {m : Me} {x1 x2 : D} {S : Sto}
end
end H

set_option maxHeartbeats 4000000
namespace H
open DL PySem PySem.Spec PyProof.Rows L2
section
variable {C : D} {cs : List Cl} {code : List D} {s : Nat} {v : D} {S : Sto}
/-! ### steps that cannot stand -/
theorem row_none {cs : List Cl} {n : Str} (h : ∀ c ∈ cs, c.n ≠ n) : rowOf cs n = [] := by
  have := row_skip n cs [] h
  rw [List.nil_append] at this
  rw [this]
  rfl
theorem ma_ok : W "ma" := ⟨fun S => by kernel_rfl, by decide +kernel⟩
/-! ### handlers that cannot stand -/
end
end H

set_option maxHeartbeats 4000000
namespace H
open DL PySem PySem.Spec PyProof.Rows L2
/-! ### fields of things, own methods, the nearest method -/
/-! ### places in lists -/
theorem ix_str {ws : List Str} {w : Str} (hW : ∀ x ∈ ws, okD 0 (.str x) = true) (h : w ∈ ws) : ixOf (.lst (ws.map .str)) (.str w) = some (.int (ws.findIdx fun x => decide (x = w))) := by
  have s1 := okD_sh (hW w h) (by decide)
  have s2 : shD (.lst (ws.map .str)) = true := okD_sh (okD_lst (n := 0) fun d hd => by
    obtain ⟨x, hx, rfl⟩ := List.mem_map.mp hd
    exact hW x hx) (by decide)
  simp only [ixOf]
  rw [if_pos ⟨s1, s2⟩, List.findIdx?_map]
  have e : ((fun z => eqD z (.str w)) ∘ D.str) = fun x => decide (x = w) := by
    funext x
    exact eqD_str x w
  rw [e, List.findIdx?_eq_some_of_exists ⟨w, h, by simp⟩]
  rfl
/-! ### the nearest method -/
def hasW (w : Str) (u : Cl) : Bool := decide (w ∈ u.ms.map Me.w)
end H

set_option maxHeartbeats 4000000
namespace H
open DL PySem PySem.Spec PyProof.Rows L2
/-! ### entries and what they come to -/
inductive En
  | cls (s : Str)
  | fld (s f : Str)
  | met (s w : Str)
  deriving DecidableEq
def ixN (cs : List Cl) (s : Str) : Nat := (names cs).findIdx fun x => decide (x = s)
section
variable {cs : List Cl} {S : Sto} {n : Nat}
end
end H

set_option maxHeartbeats 4000000
namespace H
open DL PySem PySem.Spec PyProof.Rows L2
section
variable {cs : List Cl} {S : Sto} {n : Nat}
/-! ### which values are entries -/
def nmE : En → Str
  | .cls s => s
  | .fld s _ => s
  | .met s _ => s
end
end H

set_option maxHeartbeats 4000000
namespace H
open DL PySem PySem.Spec PyProof.Rows L2
/-! ### all entries of a house -/
end H

set_option maxHeartbeats 4000000
namespace H
open DL PySem PySem.Spec PyProof.Rows L2
/-! ### entries of steps and handlers -/
end H

set_option maxHeartbeats 4000000
namespace H
open DL PySem PySem.Spec PyProof.Rows L2
/-! ### the pool of entries -/
end H

set_option maxHeartbeats 4000000
namespace H
open DL PySem PySem.Spec PyProof.Rows L2
/-! ### the two ways to the pool -/
end H

set_option maxHeartbeats 4000000
namespace H
open DL PySem PySem.Spec PyProof.Rows L2
/-! ### the law's own way to the pool -/
end H

set_option maxHeartbeats 4000000
namespace H
open DL PySem PySem.Spec PyProof.Rows L2
/-! ### the law's pool -/
end H

set_option maxHeartbeats 4000000
namespace H
open DL PySem PySem.Spec PyProof.Rows L2
/-! ### what stands in a pool; the table of links -/
theorem fold_name (l : List Cl) : ∀ (s : Str × List Cl) (u : Cl), u ∈ (l.foldl (fun s c => if c.n = s.1 then (c.u, s.2 ++ [c]) else s) s).2 → u ∈ s.2 ∨ s.1 ∈ l.map Cl.n := by
  induction l with
  | nil => intro s u h; exact .inl h
  | cons c l ih =>
    intro s u h
    rw [List.foldl_cons] at h
    by_cases q : c.n = s.1
    · exact .inr (by rw [List.map_cons, q]; exact List.mem_cons_self)
    · rw [if_neg q] at h
      rcases ih s u h with h | h
      · exact .inl h
      · exact .inr (List.mem_cons_of_mem _ h)
theorem rowOf_name {cs : List Cl} {s : Str} {u : Cl} (h : u ∈ rowOf cs s) : s ∈ names cs := by
  rcases fold_name cs.reverse (s, []) u h with h | h
  · cases h
  · refine List.mem_cons_of_mem _ ?_
    obtain ⟨c, hc, e⟩ := List.mem_map.mp h
    exact List.mem_map.mpr ⟨c, List.mem_reverse.mp hc, e⟩
end H

set_option maxHeartbeats 4000000
namespace H
open DL PySem PySem.Spec PyProof.Rows L2
/-! ### links are alike to themselves -/
end H

set_option maxHeartbeats 4000000
namespace H
open DL PySem PySem.Spec PyProof.Rows L2
/-! ### the row below an owner -/
end H

set_option maxHeartbeats 4000000
namespace H
open DL PySem PySem.Spec PyProof.Rows L2
/-! ### loops that gather, with a bound -/
/-! ### the nearest method, by its place -/
/-! ### dicts by words -/
/-! ### what a sort comes to -/
end H

set_option maxHeartbeats 4000000
namespace H
open DL PySem PySem.Spec PyProof.Rows L2
/-! ### rows, step by step -/
theorem row_cons {cs : List Cl} (h : Tr cs) : ∀ c ∈ cs, rowOf cs c.n = c :: rowOf cs c.u := by
  induction h with
  | nil => intro c hc; cases hc
  | app cs d h hn hup ih =>
    have up_ne : ∀ c ∈ cs, d.n ≠ c.n ∧ d.n ≠ c.u := fun c hc => by
      refine ⟨fun e => hn (e ▸ List.mem_cons_of_mem _ (List.mem_map_of_mem hc)), fun e => hn ?_⟩
      have : ∀ {l : List Cl}, Tr l → ∀ c ∈ l, c.u ∈ names l := by
        intro l hl
        induction hl with
        | nil => intro c hc; cases hc
        | app l x hl hx hxu ih2 =>
          intro c hc
          have mono : ∀ y, y ∈ names l → y ∈ names (l ++ [x]) := fun y hy => by
            unfold names at hy ⊢
            rw [List.map_append]
            rcases List.mem_cons.mp hy with e | hy
            · exact e ▸ List.mem_cons_self
            · exact List.mem_cons_of_mem _ (List.mem_append_left _ hy)
          rcases List.mem_append.mp hc with hc | hc
          · exact mono _ (ih2 c hc)
          · rw [List.mem_singleton] at hc
            subst hc
            exact mono _ hxu
      rw [e]; exact this h c hc
    intro c hc
    rcases List.mem_append.mp hc with m | m
    · obtain ⟨n1, n2⟩ := up_ne c m
      rw [rowOf_app, rowOf_app, if_neg n1, if_neg n2]
      exact ih c m
    · rw [List.mem_singleton] at m
      subst m
      rw [rowOf_app, if_pos rfl, rowOf_app, if_neg]
      intro e
      rw [← e] at hup
      exact hn hup
/-! ### alike: an object of the store and a list -/
end H

set_option maxHeartbeats 4000000
namespace H
open DL PySem PySem.Spec PyProof.Rows L2
/-! ### rows of methods -/
section
variable {cs : List Cl} {S : Sto} {n : Nat}
end
end H

set_option maxHeartbeats 4000000
namespace H
open DL PySem PySem.Spec PyProof.Rows L2
/-! ### classes with many words -/
end H

set_option maxHeartbeats 1000000
namespace H
open DL PySem PySem.Spec PyProof.Rows L2 H
/-- a row's names, uppermost first -/
def wnt (cs : List Cl) (s : Str) : List Str := ((rowOf cs s).map Cl.n).reverse
def addN (l : List Str) (y : Str) : List Str := if y ∈ l then l else l ++ [y]
/-- a row of names that holds, ahead of each, all uppers -/
structure Cls (cs : List Cl) (l : List Str) : Prop where
  nd : l.Nodup
  mem : ∀ x ∈ l, x ∈ cs.map Cl.n
  up : ∀ i x, l[i]? = some x → ∀ y ∈ ((rowOf cs x).tail.map Cl.n), y ∈ l.take i
theorem addN_mem {l : List Str} {y x : Str} : x ∈ addN l y ↔ x ∈ l ∨ x = y := by
  unfold addN
  split
  · constructor
    · exact .inl
    · rintro (h | rfl)
      · exact h
      · assumption
  · simp
theorem Cls.nil {cs : List Cl} : Cls cs [] := ⟨.nil, fun x h => (by cases h), fun i x h => (by simp at h)⟩
theorem Cls.add {cs : List Cl} {l : List Str} {y : Str} (h : Cls cs l) (hy : y ∈ cs.map Cl.n) (hu : ∀ z ∈ ((rowOf cs y).tail.map Cl.n), z ∈ l) : Cls cs (addN l y) := by
  unfold addN
  split
  · exact h
  · rename_i hn
    refine ⟨?_, fun x hx => ?_, fun i x hx z hz => ?_⟩
    · rw [List.nodup_append]
      exact ⟨h.nd, by simp, fun a ha b hb => by rw [List.mem_singleton] at hb; subst hb; exact fun e => hn (e ▸ ha)⟩
    · rcases List.mem_append.mp hx with q | q
      · exact h.mem x q
      · rw [List.mem_singleton] at q; subst q; exact hy
    · by_cases hi : i < l.length
      · rw [List.getElem?_append_left hi] at hx
        rw [List.take_append_of_le_length (by omega)]
        exact h.up i x hx z hz
      · rw [List.getElem?_append_right (by omega)] at hx
        have hi0 : i - l.length = 0 := by
          cases e : i - l.length with
          | zero => rfl
          | succ k => rw [e] at hx; simp at hx
        rw [hi0] at hx
        cases hx
        have : i = l.length := by omega
        subst this
        rw [List.take_left']
        · exact hu z hz
        · rfl
theorem fold_mem {l r : List Str} {x : Str} : x ∈ r.foldl addN l ↔ x ∈ l ∨ x ∈ r := by
  induction r generalizing l with
  | nil => simp
  | cons y r ih => rw [List.foldl_cons, ih, addN_mem, List.mem_cons]; constructor <;> (intro h; rcases h with h | h <;> first | (rcases h with h | h <;> simp [h]) | simp [h])
theorem wnt_cons {cs : List Cl} (h : Tr cs) {c : Cl} (hc : c ∈ cs) : wnt cs c.n = wnt cs c.u ++ [c.n] := by
  unfold wnt
  rw [row_cons h c hc]
  simp
/-- any part of a row, uppermost first, is added -/
theorem Cls.part {cs : List Cl} (h : Tr cs) : ∀ (k : Nat) (s : Str), (rowOf cs s).length ≤ k → ∀ (a b l : List Str), wnt cs s = a ++ b → Cls cs l → Cls cs (a.foldl addN l) := by
  intro k
  induction k with
  | zero =>
    intro s hk a b l e hl
    have : rowOf cs s = [] := List.length_eq_zero_iff.mp (by omega)
    unfold wnt at e
    rw [this] at e
    simp at e
    rw [e.1]
    exact hl
  | succ k ih =>
    intro s hk a b l e hl
    by_cases hs : ∃ c ∈ cs, c.n = s
    · obtain ⟨c, hc, rfl⟩ := hs
      have hk' : (rowOf cs c.u).length ≤ k := by
        rw [row_cons h c hc] at hk
        simpa using hk
      rw [wnt_cons h hc] at e
      cases hb : b with
      | nil =>
        subst hb
        rw [List.append_nil] at e
        rw [← e, List.foldl_append]
        refine Cls.add (ih c.u hk' (wnt cs c.u) [] l (by simp) hl) (List.mem_map_of_mem hc) fun z hz => ?_
        rw [row_cons h c hc, List.tail_cons] at hz
        rw [fold_mem]
        right
        unfold wnt
        rw [List.mem_reverse]
        exact hz
      | cons y r =>
        have hn : b ≠ [] := by rw [hb]; simp
        refine ih c.u hk' a b.dropLast l ?_ hl
        have := congrArg List.dropLast e
        rw [List.dropLast_concat, List.dropLast_append_of_ne_nil hn] at this
        exact this
    · have hr : rowOf cs s = [] := row_none fun c hc e => hs ⟨c, hc, e⟩
      unfold wnt at e
      rw [hr] at e
      simp at e
      rw [e.1]
      exact hl
theorem Cls.len {cs : List Cl} {l : List Str} (h : Cls cs l) : l.length ≤ cs.length := by
  have := List.Nodup.length_le_of_subset h.nd (fun x hx => h.mem x hx)
  rwa [List.length_map] at this
/-! ### the rows of names -/
/-! ### are_classes -/
end H

set_option maxHeartbeats 1000000
namespace H
open DL PySem PySem.Spec PyProof.Rows L2
/-! ### entries of a house hold -/
section
variable {cs : List Cl} {S : Sto} {n : Nat}
end
/-! ### loops with an early end -/
/-! ### what is loaded -/
abbrev Lk := Nat × Str × List Str
def stepN (st : List Str) (i : Nat) (l : List Str) (y : Str) : Except Lk (List Str) := if y ∉ l ∧ y ∉ st then .error (i, y, l) else .ok (addN l y)
end H

set_option maxHeartbeats 1000000
namespace H
open DL PySem PySem.Spec PyProof.Rows L2
theorem notInF_tup (ns : List Str) (n : Str) : notInF (.str n) (.tup (ns.map D.str)) = some (.bl (!decide (n ∈ ns))) := by
  have h : inB (.str n) (.tup (ns.map D.str)) = some (decide (n ∈ ns)) := by
    have := inF_tup ns n
    unfold inF at this
    cases q : inB (.str n) (.tup (ns.map D.str)) with
    | none => rw [q] at this; simp at this
    | some b => rw [q] at this; simpa using this
  simp [notInF, h]
/-! ### sorted again -/
theorem dataLe_tot : PySem.W.TotalLe (PySem.W.dataLe false toPy) := PySem.W.sortLe_total (PyProof.Rows.listOrd PyProof.Rows.itemOrd) false (fun b => PySem.W.keyToks (toPy b))
theorem sortD_pw (l : List D) : (sortD l).Pairwise fun a b => PySem.W.dataLe false toPy a b = true := List.pairwise_mergeSort dataLe_tot.trans (fun a b => Bool.or_eq_true_iff.mpr (dataLe_tot.total a b)) l
theorem alike_strs (x y : Str) : PySem.W.alike (toPy (.str x)) (toPy (.str y)) = true := by simp [toPy, PySem.W.alike]
theorem sortOk_strs (l : List Str) (h : l.length ≤ 1000) : sortOk (l.map .str) = true := by
  unfold sortOk
  simp only [Bool.and_eq_true, Bool.or_eq_true, decide_eq_true_eq, List.all_eq_true]
  have len : (l.map D.str).length < LIM := lim_le (by rw [List.length_map]; omega)
  refine ⟨⟨⟨⟨?_, ?_⟩, .inr ?_⟩, ?_⟩, len⟩
  · rw [plDs_all, List.all_eq_true]
    intro d hd
    obtain ⟨x, _, rfl⟩ := List.mem_map.mp hd
    rfl
  · intro d hd e he
    obtain ⟨x, _, rfl⟩ := List.mem_map.mp hd
    obtain ⟨y, _, rfl⟩ := List.mem_map.mp he
    exact alike_strs x y
  · intro d hd
    obtain ⟨x, _, rfl⟩ := List.mem_map.mp hd
    rfl
  · intro d hd
    obtain ⟨x, _, rfl⟩ := List.mem_map.mp hd
    simp [toPy, PyData.depth]
section
variable {cs : List Cl} {S : Sto} {n : Nat}
/-! ### what is asked of stocks, of what is loaded, of uses -/
/-! ### the two loops -/
theorem nin {st : List Str} {y : Str} {ρ : DEnv} {i j : Nat} (hi : ρ[i]? = some (some (.str y))) (hj : ρ[j]? = some (some (.tup (st.map .str)))) : e2 notInF (eVar i) (eVar j) ρ S = .ok (.bl (!decide (y ∈ st))) S :=
  e2_ok (x := .str y) (var_ok hi) (var_ok hj) (by simpa [deref_str, deref_tup] using notInF_tup st y)
end
end H

set_option maxHeartbeats 1000000
namespace H
open DL PySem PySem.Spec PyProof.Rows L2
section
variable {cs : List Cl} {cells : List Int}
end
end H

set_option maxHeartbeats 1000000
namespace H
open DL PySem PySem.Spec PyProof.Rows L2
/-! ### rows of words that are added, sorted -/
theorem leS_str (a b : Str) : PySem.W.dataLe false toPy (.str a) (.str b) = leS a b := rfl
theorem sortD_srtS (l : List Str) : sortD (l.map .str) = (srtS l).map .str := by
  unfold sortD srtS
  exact (List.map_mergeSort (f := D.str) (r := leS) (s := PySem.W.dataLe false toPy) fun a _ b _ => (leS_str a b).symm).symm
theorem srtS_p (l : List Str) : (srtS l).Perm l := List.mergeSort_perm _ _
theorem srtS_mem {l : List Str} {x : Str} : x ∈ srtS l ↔ x ∈ l := (srtS_p l).mem_iff
theorem sortA_lst {l : List Str} (h : l.length ≤ 1000) : sortA (.lst (l.map .str)) = some (.lst ((srtS l).map .str)) := by simp only [sortA, itemsA, sortOk_strs l h, if_true, sortD_srtS]
/-! ### == of rows of words -/
/-! ### when all is loaded -/
def wh (cs : List Cl) (us : List En) : List Str := us.flatMap fun e => wnt cs (nmE e)
/-! ### dict comprehensions, step by step -/
/-! ### slices of rows of words -/
theorem lenT_ok {f : EF} {ρ : DEnv} {S S1 : Sto} {ds : List D} (h : f ρ S = .ok (.tup ds) S1) : eN (f1 lenF) (aCons f aNil) ρ S = .ok (.int ds.length) S1 := eN_ok (cons_ok h nil_ok) (by simp [f1, deref_tup, lenF])
end H

set_option maxHeartbeats 4000000
namespace H
open DL PySem PySem.Spec PyProof.Rows L2
/-! ### rows of handlers -/
structure Rw where
  b : Nat
  e : Nat
  n : Str
  g : Nat
section
variable {most steps : Nat} {cs : List Cl}
end
end H

set_option maxHeartbeats 4000000
namespace H
open DL PySem PySem.Spec PyProof.Rows L2
/-! ### drawn classes with handlers -/
end H

set_option maxHeartbeats 4000000
namespace H
open DL PySem PySem.Spec PyProof.Rows L2
/-! ### classes that have grown -/
theorem StepOk.mono {nms nms' : List Str} {uf uf' um um' : Str → List Str} {size : Nat} {xs : List D} (h : StepOk nms uf um size xs) (h1 : ∀ n ∈ nms, n ∈ nms') (h2 : ∀ n f, f ∈ uf n → f ∈ uf' n) (h3 : ∀ n f, f ∈ um n → f ∈ um' n) : StepOk nms' uf' um' size xs := by
  cases h with
  | bare w h => exact .bare w h
  | push v a b => exact .push v a b
  | take v a b => exact .take v a b
  | keep v a b => exact .keep v a b
  | go v a b => exact .go v a b
  | iff v a b => exact .iff v a b
  | cls w h n hn hm => exact .cls w h n hn (h1 n hm)
  | fld w h n f hn hf hm => exact .fld w h n f hn hf (h2 n f hm)
  | call n m hn hf hm => exact .call n m hn hf (h3 n m hm)
theorem HandOk.mono {nms nms' : List Str} {size : Nat} {d : D} (h : HandOk nms size d) (h1 : ∀ n ∈ nms, n ∈ nms') : HandOk nms' size d := by
  cases h with
  | mk b e n g a0 a1 a2 a3 hn hm a4 a5 => exact .mk b e n g a0 a1 a2 a3 hn (h1 n hm) a4 a5
end H

set_option maxHeartbeats 4000000
namespace Hr
open DL PySem PySem.Spec PyProof.Rows L2 H
/-! ### the first row that catches -/
def r0 : Rw := ⟨0, 0, top, 0⟩
section
variable {S : Sto} {n : Nat} {cs : List Cl} {rs : List Rw} {step : Nat} {kind : Str}
/-! ### spots -/
end
/-! ### rows of a method, spots -/
structure Sp where
  n : Str
  p : Nat
  s : Nat
def clAt (cs : List Cl) (n : Str) : Option Cl := cs.find? fun c => decide (c.n = n)
theorem clAt_of {cs : List Cl} (hO : HouseOk cs) {c : Cl} (hc : c ∈ cs) : clAt cs c.n = some c := by
  have nd : (cs.map Cl.n).Nodup := (List.nodup_cons.mp hO.tr.nodup).2
  unfold clAt
  have key : ∀ l : List Cl, (l.map Cl.n).Nodup → c ∈ l → l.find? (fun c' => decide (c'.n = c.n)) = some c := by
    intro l
    induction l with
    | nil => intro _ h; cases h
    | cons a l ih =>
      intro h hm
      rw [List.map_cons, List.nodup_cons] at h
      rcases List.mem_cons.mp hm with rfl | hm
      · rw [List.find?_cons_of_pos (by simp)]
      · have : a.n ≠ c.n := fun q => h.1 (q ▸ List.mem_map.mpr ⟨c, hm, rfl⟩)
        rw [List.find?_cons_of_neg (by simpa using this)]
        exact ih h.2 hm
  exact key cs nd hc
section
variable {S : Sto} {n : Nat} {cs : List Cl} {kind : Str} {x : Sp}
end
end Hr

namespace K86
open DL PySem PySem.Spec PyProof.Rows L2 H
def tb_list_tuple : String → Bool := fun t => (t == "list") || (t == "tuple")
def to_list_tuple : Str → Option Bool := fun _ => none
def b__law_begins : SF :=
  (sSeq (sPar [1, 2, 3] (aCons (eCall f__law_tree (aCons (eVar 0) (aCons (e2 addF (eC (.int 1)) (eCall f__law_taken (aCons (eVar 0) (aCons (eC (.int 7)) aNil)))) aNil))) (aCons eNewK (aCons (eLst aNil) aNil))))
  (sSeq (sPar [4, 5] (aCons (eLc [6, 7] (iSeq (eVar 1)) (gtTup (gtCons (gtName 6) (gtCons (gtName 7) gtNil))) eYes (eVar 6)) (aCons eNewK aNil)))
  (sSeq (sFor (iSeq (eVar 1)) (gtTup (gtCons (gtName 6) (gtCons (gtName 7) gtNil))) (sSeq (sPut 5 (eVar 6) (e2 addF (eLst (aCons (eVar 6) aNil)) (eIf (e2 neF (eVar 7) (eC (.str ("top" : Str)))) (e2 ixF (eVar 5) (eVar 7)) (eLst aNil))))
  (sSeq (sSet 8 (eCall f__law_pick (aCons (eVar 0) (aCons (eLst (aCons (eC (.str ("begin" : Str))) (aCons (eC (.str ("begin" : Str))) (aCons (eC (.str ("begin" : Str))) (aCons (eC (.str ("ma" : Str))) aNil))))) aNil))))
  (sIf (e2 (iLt fun i j => decide (j < i)) (eCall f__law_taken (aCons (eVar 0) (aCons (eC (.int 4)) aNil))) (eC (.int 0))) (sSeq (sSet 9 (eLc [14] (iSeq (eSl slF (e2 ixF (eVar 5) (eVar 6)) (e1 ptF (eC (.int 1))) (eC .non))) (gtName 14) (eAnd (e2 inF (eVar 14) (eVar 2)) (e2 eqF (e2 ixF (e2 ixF (eVar 2) (eVar 14)) (eC (.int 0))) (eVar 8))) (e2 ixF (e2 ixF (eVar 2) (eVar 14)) (eC (.int 1)))))
  (sPut 2 (eVar 6) (eTup (aCons (eVar 8) (aCons (e2 ixF (e2 addF (eVar 9) (eLst (aCons (eIf (e2 eqF (eCall f__law_taken (aCons (eVar 0) (aCons (eC (.int 6)) aNil))) (eC (.int 0))) (eTup (aCons (eC (.str ("num" : Str))) aNil)) (eTup aNil)) aNil))) (eC (.int 0))) aNil))))) sNext))))
  (sSeq (sFor (iSeq (eVar 1)) (gtTup (gtCons (gtName 6) (gtCons (gtName 7) gtNil))) (sSeq (sSet 10 (eTup aNil))
  (sSeq (sFor (iRange1 (aCons (eCall f__law_taken (aCons (eVar 0) (aCons (eC (.int 4)) aNil))) aNil)) (gtName 11) (sSeq (sSet 12 (eCall f__law_pick (aCons (eVar 0) (aCons (e2 addF (eVar 4) (eLst (aCons (eC (.str ("top" : Str))) aNil))) aNil))))
  (sSeq (sPar [8, 13] (aCons (eCall f__law_pick (aCons (eVar 0) (aCons (eLst (aCons (eC (.str ("new" : Str))) (aCons (eC (.str ("new" : Str))) (aCons (eC (.str ("cast" : Str))) (aCons (eC (.str ("is" : Str))) (aCons (eC (.str ("call" : Str))) aNil)))))) aNil))) (aCons (eC .non) aNil)))
  (sSeq (sFor (iSeq (eIf (e2 neF (eVar 12) (eC (.str ("top" : Str)))) (e2 ixF (eVar 5) (eVar 12)) (eLst aNil))) (gtName 14) (sSet 13 (eIf (eAnd (eIsN (eVar 13)) (eAnd (e2 inF (eVar 14) (eVar 2)) (e2 eqF (e2 ixF (e2 ixF (eVar 2) (eVar 14)) (eC (.int 0))) (eC (.str ("begin" : Str)))))) (e2 ixF (e2 ixF (eVar 2) (eVar 14)) (eC (.int 1))) (eVar 13))))
  (sSeq (sSet 15 (eIf (e2 eqF (eVar 8) (eC (.str ("call" : Str)))) (eTup (aCons (eC (.str ("call" : Str))) (aCons (eVar 12) (aCons (eC (.str ("begin" : Str))) aNil)))) (eTup (aCons (eVar 8) (aCons (eVar 12) aNil)))))
  (sSeq (sSet 15 (eIf (eAnd (e2 eqF (eVar 8) (eC (.str ("call" : Str)))) (eIsN (eVar 13))) (eTup (aCons (eC (.str ("new" : Str))) (aCons (eVar 12) aNil))) (eVar 15)))
  (sSeq (sSet 16 (eIf (e2 eqF (e2 ixF (eVar 15) (eC (.int 0))) (eC (.str ("new" : Str)))) (eTup aNil) (eTup (aCons (eTup (aCons (eC (.str ("none" : Str))) aNil)) aNil))))
  (sSet 10 (e2 addF (e2 addF (e2 addF (eVar 10) (eVar 16)) (e2 repTF (eTup (aCons (eTup (aCons (eC (.str ("push" : Str))) (aCons (eC (.int 1)) aNil))) aNil)) (eIf (e2 eqF (e2 ixF (eVar 15) (eC (.int 0))) (eC (.str ("call" : Str)))) (eN (f1 lenF) (aCons (eVar 13) aNil)) (eC (.int 0))))) (eTup (aCons (eVar 15) (aCons (eTup (aCons (eC (.str ("drop" : Str))) aNil)) aNil))))))))))))
  (sSeq (sSet 10 (e2 addF (eVar 10) (eTup (aCons (eTup (aCons (eC (.str ("push" : Str))) (aCons (eC (.int 1)) aNil))) (aCons (eTup (aCons (eC (.str ("give" : Str))) aNil)) aNil)))))
  (sSeq (sSet 17 (eIf (e2 eqF (eCall f__law_taken (aCons (eVar 0) (aCons (eC (.int 4)) aNil))) (eC (.int 0))) (eTup (aCons (eTup (aCons (eC (.int 0)) (aCons (eC (.int 1)) (aCons (eCall f__law_pick (aCons (eVar 0) (aCons (e2 addF (eVar 4) (eLst (aCons (eC (.str ("top" : Str))) aNil))) aNil))) (aCons (eC (.int 0)) aNil))))) aNil)) (eTup aNil)))
  (sSeq (sSet 18 (eIf (e2 inF (eVar 6) (eVar 2)) (eTup (aCons (e2 addF (e2 ixF (eVar 2) (eVar 6)) (eTup (aCons (eC (.str ("num" : Str))) (aCons (eVar 10) (aCons (eVar 17) aNil))))) aNil)) (eTup aNil)))
  (sApp 3 (eTup (aCons (eVar 6) (aCons (eVar 7) (aCons (eTup aNil) (aCons (eVar 18) aNil))))))))))))
  (sRet (eTup (aCons (eN (f1 tupF) (aCons (eVar 3) aNil)) (aCons (eVar 4) aNil))))))))
def f__law_begins : FF := fnD 19 b__law_begins

def b__law_uses : SF :=
  (sSeq (sSet 2 (e2 ixF (eLc [7] (iSeq (eVar 0)) (gtName 7) (e2 eqF (e2 ixF (eVar 7) (eC (.int 0))) (eVar 1)) (eVar 7)) (eC (.int 0))))
  (sSeq (sSet 3 (eLst (aCons (e2 ixF (eVar 2) (eC (.int 1))) aNil)))
  (sSeq (sFor (iSeq (e2 ixF (eVar 2) (eC (.int 3)))) (gtName 4) (sIf (eAnd (e2 eqF (e2 ixF (eVar 4) (eC (.int 0))) (eC (.str ("begin" : Str)))) (e2 eqE (e2 ixF (eVar 4) (eC (.int 1))) (eTup aNil))) (sSet 3 (e2 addF (eVar 3) (eLc [8] (iSeq (e2 ixF (eVar 4) (eC (.int 3)))) (gtName 8) (e2 inF (e2 ixF (eVar 8) (eC (.int 0))) (eLst (aCons (eC (.str ("new" : Str))) (aCons (eC (.str ("get" : Str))) (aCons (eC (.str ("put" : Str))) (aCons (eC (.str ("call" : Str))) (aCons (eC (.str ("cast" : Str))) (aCons (eC (.str ("is" : Str))) aNil)))))))) (e2 ixF (eVar 8) (eC (.int 1)))))) sNext))
  (sSeq (sSet 5 (eLst aNil))
  (sSeq (sFor (iSeq (eVar 3)) (gtName 6) (sSet 5 (e2 addF (eVar 5) (eRep (eLst (aCons (eVar 6) aNil)) (eN (f1 intF) (aCons (e2 notInF (eVar 6) (e2 addF (eVar 5) (eLst (aCons (eC (.str ("top" : Str))) (aCons (eVar 1) aNil))))) aNil))))))
  (sRet (eVar 5)))))))
def f__law_uses : FF := fnD 9 b__law_uses

def b__law_led : SF :=
  (sSeq (sPar [2, 3] (aCons (eCall f__law_uses (aCons (eVar 0) (aCons (eVar 1) aNil))) (aCons (e1 negF (eC (.int 1))) aNil)))
  (sSeq (sWhile (e2 (iLt fun i j => decide (i < j)) (eVar 3) (eN (f1 lenF) (aCons (eVar 2) aNil))) (sSeq (sSet 3 (eN (f1 lenF) (aCons (eVar 2) aNil)))
  (sFor (iSeq (eN (f1 lstF) (aCons (eVar 2) aNil))) (gtName 4) (sSet 2 (e2 addF (eVar 2) (eLc [5] (iSeq (eCall f__law_uses (aCons (eVar 0) (aCons (eVar 4) aNil)))) (gtName 5) (e2 notInF (eVar 5) (eVar 2)) (eVar 5)))))))
  (sRet (eVar 2))))
def f__law_led : FF := fnD 6 b__law_led

def b_methods_at : SF :=
  (sSeq (sSet 2 (eTup aNil))
  (sSeq (sFor (iSeq (eFld [("House" : Str)] ("told" : Str) (eVar 0))) (gtName 3) (sIf (e2 eqF (e2 ixF (eVar 3) (eC (.int 0))) (eVar 1)) (sSet 2 (e2 ixF (eVar 3) (eC (.int 3)))) sNext))
  (sRet (eVar 2))))
def f_methods_at : FF := fnD 4 b_methods_at

def b_used_by : SF :=
  (sSeq (sSet 2 (eLc [6] (iSeq (eSl slF (eCall f_row_of (aCons (eFld [("House" : Str)] ("told" : Str) (eVar 0)) (aCons (eVar 1) aNil))) (eC .non) (e1 ptF (eC (.int 1))))) (gtName 6) eYes (e2 ixF (eVar 6) (eC (.int 1)))))
  (sSeq (sFor (iSeq (eCall f_methods_at (aCons (eVar 0) (aCons (eVar 1) aNil)))) (gtName 3) (sIf (eAnd (e2 eqF (e2 ixF (eVar 3) (eC (.int 0))) (eC (.str ("begin" : Str)))) (e2 eqE (e2 ixF (eVar 3) (eC (.int 1))) (eTup aNil))) (sExtL 2 (eLc [7] (iSeq (e2 ixF (eVar 3) (eC (.int 3)))) (gtName 7) (e2 inF (e2 ixF (eVar 7) (eC (.int 0))) (eC (.ctp [.str ("new" : Str), .str ("get" : Str), .str ("put" : Str), .str ("call" : Str), .str ("cast" : Str), .str ("is" : Str)]))) (e2 ixF (eVar 7) (eC (.int 1))))) sNext))
  (sSeq (sSet 4 (eLst aNil))
  (sSeq (sFor (iSeq (eVar 2)) (gtName 5) (sIf (eAnd (e2 notInF (eVar 5) (eTup (aCons (eC (.str ("top" : Str))) (aCons (eVar 1) aNil)))) (e2 notInF (eVar 5) (eVar 4))) (sApp 4 (eVar 5)) sNext))
  (sRet (eVar 4))))))
def f_used_by : FF := fnD 8 b_used_by

def b_led_from : SF :=
  (sSeq (sPar [2, 3] (aCons eNewK (aCons (eObj (eLst (aCons (eVar 1) aNil))) aNil)))
  (sSeq (sWhile (e2 neF (eVar 3) (eLst aNil)) (sFor (iSeq (eCall f_used_by (aCons (eVar 0) (aCons (ePop (eVar 3)) aNil)))) (gtName 4) (sIf (e2 notInF (eVar 4) (eVar 2)) (sSeq (sPut 2 (eVar 4) (eC (.bl true)))
  (sAppE (eVar 3) (eVar 4))) sNext)))
  (sRet (eVar 2))))
def f_led_from : FF := fnD 5 b_led_from

def b_use_rings : SF :=
  (sSeq (sExpr (eCall f_need_house (aCons (eVar 0) aNil)))
  (sSeq (sSet 1 (eLc [6] (iSeq (eFld [("House" : Str)] ("told" : Str) (eVar 0))) (gtName 6) eYes (e2 ixF (eVar 6) (eC (.int 0)))))
  (sSeq (sSet 2 (eDc [4] (iSeq (eVar 1)) (gtName 4) eYes (eVar 4) (eCall f_led_from (aCons (eVar 0) (aCons (eVar 4) aNil)))))
  (sSeq (sSet 3 eNewT)
  (sSeq (sFor (iSeq (eVar 1)) (gtName 4) (sSeq (sSet 5 (eN (f1 tupF) (aCons (eN (f1 sortA) (aCons (eLc [7] (iSeq (eVar 1)) (gtName 7) (eAnd (e2 inF (eVar 7) (e2 ixF (eVar 2) (eVar 4))) (e2 inF (eVar 4) (e2 ixF (eVar 2) (eVar 7)))) (eVar 7)) aNil)) aNil)))
  (sIf (e2 (iLt fun i j => decide (j < i)) (eN (f1 lenF) (aCons (eVar 5) aNil)) (eC (.int 1))) (sPut 3 (eVar 5) (eC (.bl true))) sNext)))
  (sRet (eN (f1 sortA) (aCons (eN (f1 lstT) (aCons (eVar 3) aNil)) aNil))))))))
def f_use_rings : FF := fnD 8 b_use_rings

def b_need_class : SF :=
  (sSeq (sExpr (eCall f_need_house (aCons (eVar 0) aNil)))
  (sSeq (sExpr (eCall f_need_name (aCons (eVar 0) (aCons (eVar 1) aNil))))
  (sIf (e2 eqF (eVar 1) (eC (.str ("top" : Str)))) sNever sNext)))
def f_need_class : FF := fnD 2 b_need_class

def b_ring_to : SF :=
  (sSeq (sExpr (eCall f_need_class (aCons (eVar 0) (aCons (eVar 1) aNil))))
  (sSeq (sSet 2 (eLst (aCons (eTup (aCons (eVar 1) aNil)) aNil)))
  (sSeq (sWhile (e2 neF (eVar 2) (eLst aNil)) (sSeq (sSet 3 (eLc2 [6, 5] [5] (iSeq (eVar 2)) (gtName 6) eYes (iSeq (eCall f_used_by (aCons (eVar 0) (aCons (e2 ixF (eVar 6) (e1 negF (eC (.int 1)))) aNil)))) (gtName 5) eYes (eTup (aStar (eVar 6) (aCons (eVar 5) aNil)))))
  (sSeq (sSet 4 (eLc [6] (iSeq (eVar 3)) (gtName 6) (e2 inF (e2 ixF (eVar 6) (e1 negF (eC (.int 1)))) (eSl slF (eVar 6) (eC .non) (e1 ptF (e1 negF (eC (.int 1)))))) (eVar 6)))
  (sSeq (sIf (e2 neF (eVar 4) (eLst aNil)) (sRet (eN (f1 minTF) (aCons (eVar 4) aNil))) sNext)
  (sSet 2 (eVar 3))))))
  (sRet (eC .non)))))
def f_ring_to : FF := fnD 7 b_ring_to

def b_begun (self : FF) : SF :=
  (sSeq (sIf (eOr (e2 inF (eVar 1) (eVar 3)) (e2 inF (eVar 1) (eVar 2))) sRetN sNext)
  (sSeq (sFor (iSeq (eCall f_used_by (aCons (eVar 0) (aCons (eVar 1) aNil)))) (gtName 5) (sSeq (sIf (eOr (e2 inF (eVar 5) (eVar 2)) (e2 eqF (eVar 5) (eVar 1))) (sAppE (eVar 4) (eTup (aCons (eVar 1) (aCons (eVar 5) aNil)))) sNext)
  (sExpr (eCall self (aCons (eVar 0) (aCons (eVar 5) (aCons (eLst (aStar (eVar 2) (aCons (eVar 1) aNil))) (aCons (eVar 3) (aCons (eVar 4) aNil)))))))))
  (sAppE (eVar 3) (eVar 1))))
def f_begun : Nat → FF
  | 0 => fnD 6 sNever
  | k + 1 => fnD 6 (b_begun (f_begun k))

def b_all_begun : SF :=
  (sSeq (sPar [2, 3] (aCons (eObj (eLst aNil)) (aCons (eObj (eLst aNil)) aNil)))
  (sSeq (sFor (iSeq (eVar 1)) (gtName 4) (sExpr (eCall (f_begun 9) (aCons (eVar 0) (aCons (eVar 4) (aCons (eLst aNil) (aCons (eVar 2) (aCons (eVar 3) aNil))))))))
  (sRet (eTup (aCons (eVar 2) (aCons (eVar 3) aNil))))))
def f_all_begun : FF := fnD 5 b_all_begun

def b_is_early : SF :=
  (sSeq (sExpr (eCall f_need_class (aCons (eVar 0) (aCons (eVar 1) aNil))))
  (sRet (e2 neF (e2 ixF (eCall f_all_begun (aCons (eVar 0) (aCons (eLst (aCons (eVar 1) aNil)) aNil))) (eC (.int 1))) (eLst aNil))))
def f_is_early : FF := fnD 2 b_is_early

def b_need_names : SF :=
  (sSeq (sExpr (eCall f_need_house (aCons (eVar 0) aNil)))
  (sSeq (sIf (eNot (e1 (isF tb_list_tuple to_list_tuple) (eVar 1))) sNever sNext)
  (sSeq (sSet 2 (eLc [5] (iSeq (eFld [("House" : Str)] ("told" : Str) (eVar 0))) (gtName 5) eYes (e2 ixF (eVar 5) (eC (.int 0)))))
  (sFor (iEn (aCons (eVar 1) aNil)) (gtTup (gtCons (gtName 3) (gtCons (gtName 4) gtNil))) (sIf (eOr (eNot (e1 (isF tb_str to_str) (eVar 4))) (e2 notInF (eVar 4) (eVar 2))) sNever sNext)))))
def f_need_names : FF := fnD 6 b_need_names

def b_met_early : SF :=
  (sSeq (sExpr (eCall f_need_names (aCons (eVar 0) (aCons (eVar 1) aNil))))
  (sRet (e2 ixF (eCall f_all_begun (aCons (eVar 0) (aCons (eVar 1) aNil))) (eC (.int 1)))))
def f_met_early : FF := fnD 2 b_met_early

def b_law : SF :=
  (sSeq (sNewO 1 (aCons (eVar 0) (aCons (eC (.int 0)) (aCons (eC (.int 2986)) (aCons (eC (.int 0)) aNil)))))
  (sSeq (sUnp (gtTup (gtCons (gtName 2) (gtCons (gtName 3) gtNil))) (eCall f__law_begins (aCons (eVar 1) aNil)))
  (sSeq (sPar [4, 5, 6] (aCons (eMake ("House" : Str) f_House___init__ (aCons (eVar 2) aNil)) (aCons eNewK (aCons (eLst aNil) aNil))))
  (sSeq (sFor (iSeq (eVar 3)) (gtName 7) (sPut 5 (eVar 7) (eCall f__law_led (aCons (eVar 2) (aCons (eVar 7) aNil)))))
  (sSeq (sFor (iSeq (eVar 3)) (gtName 7) (sSeq (sSet 8 (eN (f1 tupF) (aCons (eN (f1 sortA) (aCons (eLc [16] (iSeq (eVar 3)) (gtName 16) (eAnd (e2 inF (eVar 16) (e2 ixF (eVar 5) (eVar 7))) (e2 inF (eVar 7) (e2 ixF (eVar 5) (eVar 16)))) (eVar 16)) aNil)) aNil)))
  (sSet 6 (e2 addF (eVar 6) (eRep (eLst (aCons (eVar 8) aNil)) (eN (f1 intF) (aCons (eAnd (e2 (iLt fun i j => decide (j < i)) (eN (f1 lenF) (aCons (eVar 8) aNil)) (eC (.int 1))) (e2 notInF (eVar 8) (eVar 6))) aNil)))))))
  (sSeq (sIf (eNot (eCall (f__law_alike 9) (aCons (eCall f_use_rings (aCons (eVar 4) aNil)) (aCons (eN (f1 sortA) (aCons (eVar 6) aNil)) aNil)))) (sRet (eC (.bl false))) sNext)
  (sSeq (sFor (iSeq (eVar 3)) (gtName 7) (sSeq (sSet 9 (e2 neF (eLc [16] (iSeq (e2 addF (eLst (aCons (eVar 7) aNil)) (e2 ixF (eVar 5) (eVar 7)))) (gtName 16) (e2 inF (eVar 16) (e2 ixF (eVar 5) (eVar 16))) (eVar 16)) (eLst aNil)))
  (sSeq (sPar [10, 11] (aCons (eLst (aCons (eTup (aCons (eVar 7) aNil)) aNil)) (aCons (eC .non) aNil)))
  (sSeq (sFor (iRange1 (aCons (eN (f1 lenF) (aCons (eVar 3) aNil)) aNil)) (gtName 12) (sSeq (sSet 13 (eLst aNil))
  (sSeq (sFor (iSeq (eVar 10)) (gtName 14) (sSet 13 (e2 addF (eVar 13) (eLc [16] (iSeq (eCall f__law_uses (aCons (eVar 2) (aCons (e2 ixF (eVar 14) (e1 negF (eC (.int 1)))) aNil)))) (gtName 16) eYes (e2 addF (eVar 14) (eTup (aCons (eVar 16) aNil)))))))
  (sSeq (sSet 10 (eVar 13))
  (sSeq (sSet 15 (eN (f1 sortA) (aCons (eLc [14] (iSeq (eVar 10)) (gtName 14) (e2 inF (e2 ixF (eVar 14) (e1 negF (eC (.int 1)))) (eSl slF (eVar 14) (eC .non) (e1 ptF (e1 negF (eC (.int 1)))))) (eVar 14)) aNil)))
  (sSeq (sSet 11 (eIf (eAnd (eIsN (eVar 11)) (e2 neF (eVar 15) (eLst aNil))) (e2 ixF (eVar 15) (eC (.int 0))) (eVar 11)))
  (sSet 10 (eLc [14] (iSeq (eVar 10)) (gtName 14) (e2 notInF (e2 ixF (eVar 14) (e1 negF (eC (.int 1)))) (eSl slF (eVar 14) (eC .non) (e1 ptF (e1 negF (eC (.int 1)))))) (eVar 14)))))))))
  (sSeq (sIf (eOr (e2 neF (eNotN (eVar 11)) (eVar 9)) (eNot (eCall (f__law_alike 9) (aCons (eCall f_ring_to (aCons (eVar 4) (aCons (eVar 7) aNil))) (aCons (eVar 11) aNil))))) (sRet (eC (.bl false))) sNext)
  (sIf (eOr (eNot (eCall (f__law_alike 9) (aCons (eCall f_is_early (aCons (eVar 4) (aCons (eVar 7) aNil))) (aCons (eVar 9) aNil)))) (e2 neF (e2 neF (eCall f_met_early (aCons (eVar 4) (aCons (eLst (aCons (eVar 7) aNil)) aNil))) (eLst aNil)) (eVar 9))) (sRet (eC (.bl false))) sNext))))))
  (sRet (eC (.bl true))))))))))
def f_law : FF := fnD 17 b_law

end K86

set_option maxHeartbeats 4000000
namespace K86
open DL PySem PySem.Spec PyProof.Rows L2 H
/-! ### beginnings, plain -/
abbrev Bg := List Str × List (Str × Str)
def early (line : List Str) (nm o : Str) (e : List (Str × Str)) : List (Str × Str) := if o ∈ line ∨ o = nm then e ++ [(nm, o)] else e
def beg (us : Str → List Str) : Nat → Str → List Str → Bg → Bg
  | 0, _, _, s => s
  | k + 1, nm, line, s => if nm ∈ s.1 ∨ nm ∈ line then s else
    (((us nm).foldl (fun s o => beg us k o (line ++ [nm]) (s.1, early line nm o s.2)) s).1 ++ [nm], ((us nm).foldl (fun s o => beg us k o (line ++ [nm]) (s.1, early line nm o s.2)) s).2)
structure UsOk (N : List Str) (us : Str → List Str) : Prop where
  nd : N.Nodup
  len : N.length ≤ 7
  sub : ∀ n ∈ N, ∀ o ∈ us n, o ∈ N
  ul : ∀ n ∈ N, (us n).length ≤ 7
structure Iv (N : List Str) (us : Str → List Str) (s : Bg) : Prop where
  nd : s.1.Nodup
  sub : ∀ n ∈ s.1, n ∈ N
  met : ∀ i n, s.1[i]? = some n → ∀ o ∈ us n, o ∈ s.1.take i ∨ (n, o) ∈ s.2
structure Pre (N : List Str) (k : Nat) (line : List Str) (s : Bg) : Prop where
  nd : line.Nodup
  sub : ∀ n ∈ line, n ∈ N
  fuel : N.length < line.length + k
  dis : ∀ n ∈ line, n ∉ s.1
structure Post (N : List Str) (us : Str → List Str) (line : List Str) (s s' : Bg) : Prop where
  iv : Iv N us s'
  pre : ∃ t, s'.1 = s.1 ++ t
  sub : ∀ p ∈ s.2, p ∈ s'.2
  dis : ∀ n ∈ line, n ∉ s'.1
  len : s'.2.length + 7 * s.1.length ≤ s.2.length + 7 * s'.1.length
theorem Post.refl {N : List Str} {us : Str → List Str} {line : List Str} {s : Bg} (h : Iv N us s) (hd : ∀ n ∈ line, n ∉ s.1) : Post N us line s s := ⟨h, ⟨[], by simp⟩, fun _ h => h, hd, Nat.le_refl _⟩
theorem early_sub (line : List Str) (nm o : Str) (e : List (Str × Str)) : ∀ p ∈ e, p ∈ early line nm o e := fun p hp => by
  unfold early
  split
  · exact List.mem_append_left _ hp
  · exact hp
theorem early_len (line : List Str) (nm o : Str) (e : List (Str × Str)) : (early line nm o e).length ≤ e.length + 1 := by
  unfold early
  split <;> simp
theorem Iv.more {N : List Str} {us : Str → List Str} {d : List Str} {e e' : List (Str × Str)} (h : Iv N us (d, e)) (hs : ∀ p ∈ e, p ∈ e') : Iv N us (d, e') := ⟨h.nd, h.sub, fun i n hn o ho => (h.met i n hn o ho).imp id fun q => hs _ q⟩
theorem nodup_le : ∀ {l N : List Str}, l.Nodup → (∀ n ∈ l, n ∈ N) → l.length ≤ N.length
  | [], N, _, _ => by simp
  | a :: l, N, h, hs => by
    rw [List.nodup_cons] at h
    have ha := hs a List.mem_cons_self
    have := nodup_le (l := l) (N := N.erase a) h.2 fun n hn => (List.mem_erase_of_ne (show n ≠ a from fun q => h.1 (q ▸ hn))).mpr (hs n (List.mem_cons_of_mem _ hn))
    rw [List.length_erase_of_mem ha] at this
    have : 0 < N.length := List.length_pos_of_mem ha
    rw [List.length_cons]
    omega
/-- what beginning one class does -/
theorem beg_post {N : List Str} {us : Str → List Str} (hu : UsOk N us) : ∀ (k : Nat) (nm : Str) (line : List Str) (s : Bg), nm ∈ N → Pre N k line s → Iv N us s →
    Post N us line s (beg us k nm line s) ∧ (nm ∈ (beg us k nm line s).1 ∨ nm ∈ line)
  | 0, nm, line, s, hn, hp, hi => by
    have := nodup_le hp.nd hp.sub
    have := hp.fuel
    omega
  | k + 1, nm, line, s, hn, hp, hi => by
    unfold beg
    by_cases c : nm ∈ s.1 ∨ nm ∈ line
    · rw [if_pos c]
      exact ⟨.refl hi hp.dis, c⟩
    · rw [if_neg c]
      have c1 : nm ∉ s.1 := fun h => c (.inl h)
      have c2 : nm ∉ line := fun h => c (.inr h)
      have nl : (line ++ [nm]).Nodup := by
        rw [List.nodup_append]
        refine ⟨hp.nd, by simp, fun a ha b hb => ?_⟩
        rw [List.mem_singleton] at hb
        subst hb
        exact fun q => c2 (q ▸ ha)
      have sl : ∀ n ∈ line ++ [nm], n ∈ N := fun n h => by
        rcases List.mem_append.mp h with h | h
        · exact hp.sub n h
        · rw [List.mem_singleton] at h; rw [h]; exact hn
      -- the fold
      have fold : ∀ (l : List Str), (∀ o ∈ l, o ∈ N) → ∀ s0 : Bg, Iv N us s0 → (∀ n ∈ line ++ [nm], n ∉ s0.1) →
          ∃ s1 : Bg, l.foldl (fun s o => beg us k o (line ++ [nm]) (s.1, early line nm o s.2)) s0 = s1 ∧ Iv N us s1 ∧ (∃ t, s1.1 = s0.1 ++ t) ∧ (∀ p ∈ s0.2, p ∈ s1.2) ∧ (∀ n ∈ line ++ [nm], n ∉ s1.1) ∧ s1.2.length + 7 * s0.1.length ≤ s0.2.length + 7 * s1.1.length + l.length ∧ ∀ o ∈ l, o ∈ s1.1 ∨ (nm, o) ∈ s1.2 := by
        intro l
        induction l with
        | nil => intro _ s0 h0 h1; exact ⟨s0, rfl, h0, ⟨[], by simp⟩, fun _ h => h, h1, by simp, by simp⟩
        | cons o l ih =>
          intro hl s0 h0 h1
          have iv0 : Iv N us (s0.1, early line nm o s0.2) := Iv.more (d := s0.1) (e := s0.2) h0 (early_sub line nm o s0.2)
          obtain ⟨p1, p2⟩ := beg_post hu k o (line ++ [nm]) (s0.1, early line nm o s0.2) (hl o List.mem_cons_self) ⟨nl, sl, by have := hp.fuel; simp; omega, h1⟩ iv0
          obtain ⟨s1, e1, q1, ⟨t2, q2⟩, q3, q4, q5, q6⟩ := ih (fun o h => hl o (List.mem_cons_of_mem _ h)) _ p1.iv p1.dis
          obtain ⟨t1, ht1⟩ := p1.pre
          refine ⟨s1, by rw [List.foldl_cons]; exact e1, q1, ⟨t1 ++ t2, by rw [q2, ht1]; simp⟩, fun p h => q3 p (p1.sub p (early_sub line nm o s0.2 p h)), q4, ?_, ?_⟩
          · have a := p1.len
            have b := early_len line nm o s0.2
            simp only [List.length_cons] at *
            omega
          · intro o' ho'
            rcases List.mem_cons.mp ho' with rfl | ho'
            · rcases p2 with p2 | p2
              · left; rw [q2]; exact List.mem_append_left _ p2
              · right
                refine q3 _ (p1.sub _ ?_)
                show (nm, o') ∈ early line nm o' s0.2
                unfold early
                rw [if_pos (by
                  rcases List.mem_append.mp p2 with h | h
                  · exact .inl h
                  · rw [List.mem_singleton] at h; exact .inr h)]
                simp
            · exact q6 o' ho'
      obtain ⟨s1, e1, q1, ⟨t, q2⟩, q3, q4, q5, q6⟩ := fold (us nm) (hu.sub nm hn) s hi (fun n h => by
        rcases List.mem_append.mp h with h | h
        · exact hp.dis n h
        · rw [List.mem_singleton] at h; rw [h]; exact c1)
      rw [e1]
      have nn : nm ∉ s1.1 := q4 nm (by simp)
      have ul := hu.ul nm hn
      refine ⟨⟨⟨?_, ?_, ?_⟩, ⟨t ++ [nm], by show s1.1 ++ [nm] = _; rw [q2]; simp⟩, q3, ?_, ?_⟩, .inl (by simp)⟩
      · rw [List.nodup_append]
        refine ⟨q1.nd, by simp, fun a ha b hb => ?_⟩
        rw [List.mem_singleton] at hb
        subst hb
        exact fun q => nn (q ▸ ha)
      · intro n h
        rcases List.mem_append.mp h with h | h
        · exact q1.sub n h
        · rw [List.mem_singleton] at h; rw [h]; exact hn
      · intro i n hi' o ho
        show o ∈ (s1.1 ++ [nm]).take i ∨ (n, o) ∈ s1.2
        have hi' : (s1.1 ++ [nm])[i]? = some n := hi'
        by_cases hlt : i < s1.1.length
        · rw [List.getElem?_append_left hlt] at hi'
          rw [List.take_append_of_le_length (by omega)]
          exact q1.met i n hi' o ho
        · have hle : i < (s1.1 ++ [nm]).length := (List.getElem?_eq_some_iff.mp hi').1
          have ei : i = s1.1.length := by simp at hle; omega
          subst ei
          rw [List.getElem?_append_right (Nat.le_refl _)] at hi'
          simp at hi'
          subst hi'
          rw [List.take_left]
          exact q6 o ho
      · intro n h q
        rcases List.mem_append.mp q with q | q
        · exact q4 n (List.mem_append_left _ h) q
        · rw [List.mem_singleton] at q; exact c2 (q ▸ h)
      · simp only [List.length_append, List.length_singleton]
        omega
/-- many are begun -/
def begs (us : Str → List Str) (l : List Str) (s : Bg) : Bg := l.foldl (fun s o => beg us 9 o [] s) s
theorem begs_post {N : List Str} {us : Str → List Str} (hu : UsOk N us) : ∀ (l : List Str) (s : Bg), (∀ n ∈ l, n ∈ N) → Iv N us s →
    Post N us [] s (begs us l s) ∧ ∀ n ∈ l, n ∈ (begs us l s).1
  | [], s, _, hi => ⟨.refl hi (by simp), by simp⟩
  | o :: l, s, hl, hi => by
    have hl7 := hu.len
    obtain ⟨p1, p2⟩ := beg_post hu 9 o [] s (hl o List.mem_cons_self) ⟨.nil, by simp, by simp; omega, by simp⟩ hi
    obtain ⟨q1, q2⟩ := begs_post hu l (beg us 9 o [] s) (fun n h => hl n (List.mem_cons_of_mem _ h)) p1.iv
    obtain ⟨t1, e1⟩ := p1.pre
    obtain ⟨t2, e2⟩ := q1.pre
    refine ⟨⟨q1.iv, ⟨t1 ++ t2, by show (begs us l _).1 = _; rw [e2, e1]; simp⟩, fun p h => q1.sub p (p1.sub p h), by simp, ?_⟩, ?_⟩
    · have a := p1.len
      have b := q1.len
      show (begs us l _).2.length + _ ≤ _
      simp only [begs, List.foldl_cons] at *
      omega
    · intro n hn
      rcases List.mem_cons.mp hn with rfl | hn
      · have : n ∈ (beg us 9 n [] s).1 := by
          rcases p2 with h | h
          · exact h
          · cases h
        show n ∈ (begs us l _).1
        rw [e2]
        exact List.mem_append_left _ this
      · exact q2 n hn
theorem iv_nil (N : List Str) (us : Str → List Str) : Iv N us ([], []) := ⟨.nil, by simp, by simp⟩
end K86

set_option maxHeartbeats 4000000
namespace K86
open DL PySem PySem.Spec PyProof.Rows L2 H Hr
theorem forD_nx {g : GF} {body : SF} {x : D} {xs : List D} {ρ ρ1 ρ2 : DEnv} {S S2 : Sto} (h1 : g x ρ = some ρ1) (h2 : body ρ1 S = .nx ρ2 S2) : forD g body (x :: xs) ρ S = forD g body xs ρ2 S2 := by
  simp only [forD, h1, h2]
theorem lcD_fm {α : Type} {g : GF} {fc fe : EF} {ρ : DEnv} {S : Sto} (emb : α → D) (q : α → Option Str) : ∀ {l : List α} {acc : List D}, (∀ a ∈ l, ∃ ρ1, g (emb a) ρ = some ρ1 ∧ fc ρ1 S = .ok (.bl (q a).isSome) S ∧ ∀ s, q a = some s → fe ρ1 S = .ok (.str s) S) →
    lcD g fc fe (l.map emb) acc ρ S = .ok (.lst (acc ++ (l.filterMap q).map .str)) S
  | [], acc, _ => by simp [lcD]
  | a :: l, acc, h => by
    obtain ⟨ρ1, e1, e2, e3⟩ := h a List.mem_cons_self
    have ih := fun acc => lcD_fm (acc := acc) emb q (l := l) fun b hb => h b (List.mem_cons_of_mem _ hb)
    rw [List.map_cons]
    unfold lcD
    rw [e1]
    dsimp only
    rw [e2]
    cases hq : q a with
    | none =>
      rw [List.filterMap_cons_none hq]
      exact ih acc
    | some s =>
      rw [List.filterMap_cons_some hq]
      dsimp only [Option.isSome]
      rw [e3 s hq]
      dsimp only
      rw [ih]
      simp
/-! ### what a class uses -/
def nmsW : List Str := ["new", "get", "put", "call", "cast", "is"]
def bgn : Str := "begin"
def stepN : D → Option Str
  | .tup (.str w :: .str n :: _) => if w ∈ nmsW then some n else none
  | _ => none
def rawM (m : Me) : List Str := if m.w = bgn ∧ m.ins = [] then m.code.filterMap stepN else []
def addU (nm : Str) (a : List Str) (o : Str) : List Str := if o = top ∨ o = nm ∨ o ∈ a then a else a ++ [o]
def dd (nm : Str) (l : List Str) : List Str := l.foldl (addU nm) []
def rawC (c : Cl) : List Str := c.u :: c.ms.flatMap rawM
def uses (cs : List Cl) (nm : Str) : List Str := match clAt cs nm with
  | some c => dd nm (rawC c)
  | none => []
theorem addU_len (nm : Str) (a : List Str) (o : Str) : (addU nm a o).length ≤ a.length + 1 := by
  unfold addU
  split <;> simp
theorem addU_nd {nm : Str} {a : List Str} {o : Str} (h : a.Nodup ∧ ∀ x ∈ a, x ≠ top ∧ x ≠ nm) : (addU nm a o).Nodup ∧ ∀ x ∈ addU nm a o, x ≠ top ∧ x ≠ nm := by
  unfold addU
  split
  · exact h
  · rename_i c
    have c1 : o ≠ top := fun q => c (.inl q)
    have c2 : o ≠ nm := fun q => c (.inr (.inl q))
    have c3 : o ∉ a := fun q => c (.inr (.inr q))
    refine ⟨?_, fun x hx => ?_⟩
    · rw [List.nodup_append]
      refine ⟨h.1, by simp, fun x hx y hy => ?_⟩
      rw [List.mem_singleton] at hy
      subst hy
      exact fun q => c3 (q ▸ hx)
    · rcases List.mem_append.mp hx with hx | hx
      · exact h.2 x hx
      · rw [List.mem_singleton] at hx; subst hx; exact ⟨c1, c2⟩
theorem dd_fold (nm : Str) : ∀ (l a : List Str), (a.Nodup ∧ ∀ x ∈ a, x ≠ top ∧ x ≠ nm) → ((l.foldl (addU nm) a).Nodup ∧ ∀ x ∈ l.foldl (addU nm) a, x ≠ top ∧ x ≠ nm) ∧ ∀ x ∈ l.foldl (addU nm) a, x ∈ a ∨ x ∈ l
  | [], a, h => ⟨h, fun x hx => .inl hx⟩
  | o :: l, a, h => by
    obtain ⟨h1, h2⟩ := dd_fold nm l (addU nm a o) (addU_nd h)
    refine ⟨h1, fun x hx => ?_⟩
    rcases h2 x hx with q | q
    · unfold addU at q
      split at q
      · exact .inl q
      · rcases List.mem_append.mp q with q | q
        · exact .inl q
        · rw [List.mem_singleton] at q; exact .inr (by rw [q]; exact List.mem_cons_self)
    · exact .inr (List.mem_cons_of_mem _ q)
theorem stepN_spec {nms : List Str} {uf um : Str → List Str} {size : Nat} {xs : List D} (h : StepOk nms uf um size xs) : ∃ w r, xs = .str w :: r ∧ (stepN (.tup xs)).isSome = decide (w ∈ nmsW) ∧ ∀ s, stepN (.tup xs) = some s → ∃ r', r = .str s :: r' := by
  have key : ∀ w n r, (stepN (.tup (.str w :: .str n :: r))).isSome = decide (w ∈ nmsW) ∧ ∀ s, stepN (.tup (.str w :: .str n :: r)) = some s → ∃ r', (.str n :: r : List D) = .str s :: r' := fun w n r => by
    simp only [stepN]
    by_cases c : w ∈ nmsW
    · rw [if_pos c, decide_eq_true c]
      exact ⟨rfl, fun s e => by cases e; exact ⟨_, rfl⟩⟩
    · rw [if_neg c, decide_eq_false c]
      exact ⟨rfl, fun s e => by cases e⟩
  have no1 : ∀ w : Str, w ∉ nmsW → ∀ r : List D, stepN (.tup (.str w :: r)) = none → (stepN (.tup (.str w :: r))).isSome = decide (w ∈ nmsW) ∧ ∀ s, stepN (.tup (.str w :: r)) = some s → ∃ r', r = .str s :: r' := fun w hw r e => by
    rw [e, decide_eq_false hw]
    exact ⟨rfl, fun s q => by cases q⟩
  cases h with
  | bare w h =>
    have hb : ∀ w ∈ bareW, w ∉ nmsW := by decide +kernel
    exact ⟨w, [], rfl, no1 w (hb w h) [] rfl⟩
  | push v h0 h1 => exact ⟨_, _, rfl, no1 _ (by decide +kernel) _ rfl⟩
  | take v h0 h1 => exact ⟨_, _, rfl, no1 _ (by decide +kernel) _ rfl⟩
  | keep v h0 h1 => exact ⟨_, _, rfl, no1 _ (by decide +kernel) _ rfl⟩
  | go v h0 h1 => exact ⟨_, _, rfl, no1 _ (by decide +kernel) _ rfl⟩
  | iff v h0 h1 => exact ⟨_, _, rfl, no1 _ (by decide +kernel) _ rfl⟩
  | cls w h n hn hm => exact ⟨_, _, rfl, key w n []⟩
  | fld w h n f hn hf hm => exact ⟨_, _, rfl, key w n _⟩
  | call n m hn hf hm => exact ⟨_, _, rfl, key _ n _⟩
theorem stepN_names {nms : List Str} {uf um : Str → List Str} {size : Nat} {xs : List D} {s : Str} (h : StepOk nms uf um size xs) (hu : ∀ n f, f ∈ uf n → n ∈ nms) (hm : ∀ n f, f ∈ um n → n ∈ nms) (e : stepN (.tup xs) = some s) : s ∈ nms := by
  have key : ∀ w n r, stepN (.tup (.str w :: .str n :: r)) = some s → s = n := fun w n r e => by
    simp only [stepN] at e
    split at e
    · cases e; rfl
    · cases e
  cases h with
  | bare w h => cases e
  | push v h0 h1 => cases e
  | take v h0 h1 => cases e
  | keep v h0 h1 => cases e
  | go v h0 h1 => cases e
  | iff v h0 h1 => cases e
  | cls w h n hn hm => rw [key _ _ _ e]; exact hm
  | fld w h n f hn hf hm => rw [key _ _ _ e]; exact hu _ _ hm
  | call n m hn hf hm' => rw [key _ _ _ e]; exact hm _ _ hm'
section
variable {S : Sto} {n : Nat} {cs : List Cl} {c : Cl}
theorem code_all (hO : HouseOk cs) (hc : c ∈ cs) {m : Me} (hm : m ∈ c.ms) : m.cd = .tup m.code ∧ m.code.length ≤ 20 ∧ ∀ d ∈ m.code, ∃ xs, d = .tup xs ∧ StepOk (names cs) (upF cs) (upM cs) m.code.length xs := by
  obtain ⟨i, hi⟩ := List.mem_iff_getElem?.mp hc
  have k := (hO.cl i c hi).code m hm
  exact ⟨k.isT, k.len, k.steps⟩
/-- the names of a code's steps -/
theorem lc_code (hO : HouseOk cs) (hc : c ∈ cs) {m : Me} (hm : m ∈ c.ms) {i : Nat} {fl : EF} {wl : D} {ρ : DEnv} (hwl : ∀ w : Str, inF (.str w) wl = some (.bl (decide (w ∈ nmsW)))) (hd : ∀ S, deref S wl = wl) (hfl : ∀ d, fl (ρ.set i (some d)) S = .ok wl S) (hi : i < ρ.length) :
    lcD (gtName i) (e2 inF (e2 ixF (eVar i) (eC (.int 0))) fl) (e2 ixF (eVar i) (eC (.int 1))) m.code [] ρ S = .ok (.lst ((m.code.filterMap stepN).map .str)) S := by
  have := lcD_fm (g := gtName i) (fc := e2 inF (e2 ixF (eVar i) (eC (.int 0))) fl) (fe := e2 ixF (eVar i) (eC (.int 1))) (ρ := ρ) (S := S) id stepN (l := m.code) (acc := []) (fun d hd' => by
    obtain ⟨xs, rfl, hx⟩ := (code_all hO hc hm).2.2 d hd'
    obtain ⟨w, r, rfl, h1, h2⟩ := stepN_spec hx
    have v : eVar i (ρ.set i (some (.tup (.str w :: r)))) S = .ok (.tup (.str w :: r)) S := var_ok (by rw [List.getElem?_set_self hi])
    refine ⟨ρ.set i (some (.tup (.str w :: r))), rfl, ?_, fun s e => ?_⟩
    · have i0 : e2 ixF (eVar i) (eC (.int 0)) (ρ.set i (some (.tup (.str w :: r)))) S = .ok (.str w) S := e2_ok (x := .tup (.str w :: r)) (S1 := S) v c_ok (by simp [deref_tup, deref_int, ixF, ixS, atI_0])
      exact e2_ok (x := .str w) (y := wl) (S1 := S) i0 (hfl _) (by rw [deref_str, hd, hwl, h1])
    · obtain ⟨r', rfl⟩ := h2 s e
      exact e2_ok (x := .tup (.str w :: .str s :: r')) (S1 := S) v c_ok (by simp [deref_tup, deref_int, ixF, ixS, atI_1]))
  simpa using this
theorem m_0 {m : Me} {f : EF} {ρ : DEnv} (h : f ρ S = .ok (dM m) S) : e2 ixF f (eC (.int 0)) ρ S = .ok (.str m.w) S := e2_ok (x := dM m) (S1 := S) h c_ok (by simp [dM, deref_tup, deref_int, ixF, ixS, atI_0])
theorem m_1 {m : Me} {f : EF} {ρ : DEnv} (h : f ρ S = .ok (dM m) S) : e2 ixF f (eC (.int 1)) ρ S = .ok (.tup (m.ins.map .str)) S := e2_ok (x := dM m) (S1 := S) h c_ok (by simp [dM, deref_tup, deref_int, ixF, ixS, atI_1])
theorem m_3 {m : Me} {f : EF} {ρ : DEnv} (h : f ρ S = .ok (dM m) S) (ct : m.cd = .tup m.code) : e2 ixF f (eC (.int 3)) ρ S = .ok (.tup m.code) S := e2_ok (x := dM m) (S1 := S) h c_ok (by
  rw [← ct]
  simp [dM, deref_tup, deref_int, ixF, ixS, at5_3])
theorem c_0 {f : EF} {ρ : DEnv} (h : f ρ S = .ok (dC c) S) : e2 ixF f (eC (.int 0)) ρ S = .ok (.str c.n) S := e2_ok (x := dC c) (S1 := S) h c_ok (by simp [dC, deref_tup, deref_int, ixF, ixS, atI_0])
theorem c_1 {f : EF} {ρ : DEnv} (h : f ρ S = .ok (dC c) S) : e2 ixF f (eC (.int 1)) ρ S = .ok (.str c.u) S := e2_ok (x := dC c) (S1 := S) h c_ok (by simp [dC, deref_tup, deref_int, ixF, ixS, atI_1])
theorem c_3 {f : EF} {ρ : DEnv} (h : f ρ S = .ok (dC c) S) : e2 ixF f (eC (.int 3)) ρ S = .ok (.tup (c.ms.map dM)) S := e2_ok (x := dC c) (S1 := S) h c_ok (by simp [dC, deref_tup, deref_int, ixF, ixS, at2_3])
/-- is it a beginning without ins -/
theorem isb_ok {m : Me} {f : EF} {ρ : DEnv} (h : f ρ S = .ok (dM m) S) : eAnd (e2 eqF (e2 ixF f (eC (.int 0))) (eC (.str ("begin" : Str)))) (e2 eqE (e2 ixF f (eC (.int 1))) (eTup aNil)) ρ S = .ok (.bl (decide (m.w = bgn ∧ m.ins = []))) S := by
  have a : e2 eqF (e2 ixF f (eC (.int 0))) (eC (.str ("begin" : Str))) ρ S = .ok (.bl (decide (m.w = bgn))) S := e2_ok (x := .str m.w) (y := .str bgn) (S1 := S) (m_0 h) c_ok (by rw [deref_str, deref_str, eqF_str])
  have b : e2 eqE (e2 ixF f (eC (.int 1))) (eTup aNil) ρ S = .ok (.bl (m.ins.map D.str).isEmpty) S := e2_ok (x := .tup (m.ins.map .str)) (y := .tup []) (S1 := S) (m_1 h) (tup_ok nil_ok (by simp)) (by rw [deref_tup, deref_tup, eqE_tup])
  by_cases q : m.w = bgn
  · rw [decide_eq_true q] at a
    refine (and_tt a b).trans ?_
    have : (m.ins.map D.str).isEmpty = decide (m.w = bgn ∧ m.ins = []) := by
      rw [Bool.eq_iff_iff]
      simp [q]
    rw [this]
  · rw [decide_eq_false q] at a
    refine (and_ff a).trans ?_
    rw [decide_eq_false (fun z => q z.1)]
theorem rawM_len (hO : HouseOk cs) (hc : c ∈ cs) {m : Me} (hm : m ∈ c.ms) : (rawM m).length ≤ 20 := by
  unfold rawM
  split
  · exact Nat.le_trans (List.length_filterMap_le _ _) (code_all hO hc hm).2.1
  · simp
theorem flat_len (hO : HouseOk cs) (hc : c ∈ cs) : ∀ l : List Me, (∀ m ∈ l, m ∈ c.ms) → (l.flatMap rawM).length ≤ l.length * 20
  | [], _ => by simp
  | m :: l, h => by
    have a := rawM_len hO hc (h m List.mem_cons_self)
    have b := flat_len hO hc l fun m hm => h m (List.mem_cons_of_mem _ hm)
    rw [List.flatMap_cons, List.length_append, List.length_cons]
    omega
theorem raw_len (hO : HouseOk cs) (hc : c ∈ cs) : (rawC c).length ≤ 81 := by
  have a := flat_len hO hc c.ms fun _ h => h
  have b := (hO.small.2 c hc).2
  unfold rawC
  rw [List.length_cons]
  omega
/-- the methods of a class -/
theorem sel_ok {nm : Str} : ∀ (l : List Cl) (acc : D), c ∈ l → c.n = nm → (l.map Cl.n).Nodup → l.foldl (fun a c' => if c'.n = nm then .tup (c'.ms.map dM) else a) acc = .tup (c.ms.map dM)
  | [], acc, h, _, _ => by cases h
  | a :: l, acc, h, e, nd => by
    rw [List.map_cons, List.nodup_cons] at nd
    rw [List.foldl_cons]
    have stay : ∀ (l : List Cl) (acc : D), (∀ x ∈ l, x.n ≠ nm) → l.foldl (fun a c' => if c'.n = nm then .tup (c'.ms.map dM) else a) acc = acc := by
      intro l
      induction l with
      | nil => intro acc _; rfl
      | cons x l ih =>
        intro acc hx
        rw [List.foldl_cons, if_neg (hx x List.mem_cons_self)]
        exact ih acc fun y hy => hx y (List.mem_cons_of_mem _ hy)
    rcases List.mem_cons.mp h with rfl | h
    · rw [if_pos e]
      exact stay l _ fun x hx q => nd.1 (List.mem_map.mpr ⟨x, hx, q.trans e.symm⟩)
    · exact sel_ok l _ h e nd.2
theorem methodsat_ok (hh : HAt S n cs) (hO : HouseOk cs) (hc : c ∈ cs) : f_methods_at [.obj n, .str c.n] S = .ok (.tup (c.ms.map dM)) S := by
  have nd : (cs.map Cl.n).Nodup := (List.nodup_cons.mp hO.tr.nodup).2
  have loop : ∀ (l : List Cl) (acc : D) (x3 : Option D), ∃ x3', forD (gtName 3) (sIf (e2 eqF (e2 ixF (eVar 3) (eC (.int 0))) (eVar 1)) (sSet 2 (e2 ixF (eVar 3) (eC (.int 3)))) sNext) (l.map dC) [some (.obj n), some (.str c.n), some acc, x3] S = .nx [some (.obj n), some (.str c.n), some (l.foldl (fun a c' => if c'.n = c.n then .tup (c'.ms.map dM) else a) acc), x3'] S := by
    intro l
    induction l with
    | nil => intro acc x3; exact ⟨x3, rfl⟩
    | cons a l ih =>
      intro acc x3
      have q : e2 eqF (e2 ixF (eVar 3) (eC (.int 0))) (eVar 1) [some (.obj n), some (.str c.n), some acc, some (dC a)] S = .ok (.bl (decide (a.n = c.n))) S := e2_ok (x := .str a.n) (y := .str c.n) (S1 := S) (c_0 (var_ok rfl)) (var_ok rfl) (by rw [deref_str, deref_str, eqF_str])
      rw [List.map_cons, List.foldl_cons]
      by_cases e : a.n = c.n
      · rw [decide_eq_true e] at q
        rw [if_pos e]
        obtain ⟨x3', h⟩ := ih (.tup (a.ms.map dM)) (some (dC a))
        exact ⟨x3', (forD_nx rfl ((if_t q).trans ((set_ok (d := .tup (a.ms.map dM)) (S' := S) (c_3 (var_ok rfl))).trans rfl))).trans h⟩
      · rw [decide_eq_false e] at q
        rw [if_neg e]
        obtain ⟨x3', h⟩ := ih acc (some (dC a))
        exact ⟨x3', (forD_nx (ρ2 := [some (.obj n), some (.str c.n), some acc, some (dC a)]) rfl (if_f q)).trans h⟩
  obtain ⟨x3', e⟩ := loop cs (.tup []) none
  rw [sel_ok cs _ hc rfl nd] at e
  refine fn_rt ?_
  show b_methods_at [some (.obj n), some (.str c.n), none, none] S = _
  unfold b_methods_at
  rw [seq_set (d := .tup []) (S' := S) (tup_ok nil_ok (by simp))]
  simp only [List.set_cons_succ, List.set_cons_zero]
  rw [seq_nx (for_ok (S1 := S) (seq_okT (ds := cs.map dC) (told_ok (var_ok rfl) hh)) e)]
  exact ret_ok (var_ok rfl)
theorem ext_ok {i : Nat} {fe : EF} {ds es : List D} {ρ : DEnv} (h : ρ[i]? = some (some (.lst ds))) (he : fe ρ S = .ok (.lst es) S) (hl : ds.length + es.length < LIM) : sExtL i fe ρ S = .nx (ρ.set i (some (.lst (ds ++ es)))) S := by
  simp only [sExtL, h, sBind, he, extTo, if_pos hl]
theorem usedby_ok (hh : HAt S n cs) (hO : HouseOk cs) (hc : c ∈ cs) : f_used_by [.obj n, .str c.n] S = .ok (.lst ((uses cs c.n).map .str)) S := by
  have h8 := hO.len
  have ml := (hO.small.2 c hc).2
  have ru := row_ok cs c.n S (by omega)
  have rc := row_cons hO.tr c hc
  have rl := rowOf_len cs c.n
  have eu : uses cs c.n = dd c.n (rawC c) := by unfold uses; rw [clAt_of hO hc]
  -- the upper one
  have l0 : eLc [6] (iSeq (eSl slF (eCall f_row_of (aCons (eFld [("House" : Str)] ("told" : Str) (eVar 0)) (aCons (eVar 1) aNil))) (eC .non) (e1 ptF (eC (.int 1))))) (gtName 6) eYes (e2 ixF (eVar 6) (eC (.int 1))) [some (.obj n), some (.str c.n), none, none, none, none, none, none] S = .ok (.lst [.str c.u]) S := by
    have cr : eCall f_row_of (aCons (eFld [("House" : Str)] ("told" : Str) (eVar 0)) (aCons (eVar 1) aNil)) [some (.obj n), some (.str c.n), none, none, none, none, none, none] S = .ok (.lst ((rowOf cs c.n).map dC)) S := call_ok (cons_ok (told_ok (var_ok rfl) hh) (cons_ok (var_ok rfl) nil_ok)) ru
    have c1 : DL.cutD ((rowOf cs c.n).map dC) none (some (1 : Int)) = [dC c] := by
      have := cut_take ((rowOf cs c.n).map dC) 1 (by rw [rc]; simp)
      refine this.trans ?_
      rw [rc]
      rfl
    have sl : eSl slF (eCall f_row_of (aCons (eFld [("House" : Str)] ("told" : Str) (eVar 0)) (aCons (eVar 1) aNil))) (eC .non) (e1 ptF (eC (.int 1))) [some (.obj n), some (.str c.n), none, none, none, none, none, none] S = .ok (.lst [dC c]) S := by
      simp only [eSl, cr, Res.bind_ok, eC, optI, e1, deref_int, ptF, Res.ofOpt_some, deref_lst, slF, c1]
    have lm := lcD_map (g := gtName 6) (fe := e2 ixF (eVar 6) (eC (.int 1))) (ρ := [some (.obj n), some (.str c.n), none, none, none, none, none, none]) (S := S) dC (fun c => D.str c.u) (l := [c]) (acc := []) (fun c _ => ⟨_, rfl, c_1 (var_ok rfl)⟩)
    exact lc_ok (S1 := S) (seq_ok sl) lm
  -- the methods
  have loop1 : ∀ (l : List Me) (acc : List Str) (x3 : Option D), (∀ m ∈ l, m ∈ c.ms) → acc.length + l.length * 20 ≤ 900 → ∃ x3', forD (gtName 3) (sIf (eAnd (e2 eqF (e2 ixF (eVar 3) (eC (.int 0))) (eC (.str ("begin" : Str)))) (e2 eqE (e2 ixF (eVar 3) (eC (.int 1))) (eTup aNil))) (sExtL 2 (eLc [7] (iSeq (e2 ixF (eVar 3) (eC (.int 3)))) (gtName 7) (e2 inF (e2 ixF (eVar 7) (eC (.int 0))) (eC (.ctp [.str ("new" : Str), .str ("get" : Str), .str ("put" : Str), .str ("call" : Str), .str ("cast" : Str), .str ("is" : Str)]))) (e2 ixF (eVar 7) (eC (.int 1))))) sNext) (l.map dM) [some (.obj n), some (.str c.n), some (.lst (acc.map .str)), x3, none, none, none, none] S = .nx [some (.obj n), some (.str c.n), some (.lst ((acc ++ l.flatMap rawM).map .str)), x3', none, none, none, none] S := by
    intro l
    induction l with
    | nil => intro acc x3 _ _; exact ⟨x3, by simp [forD]⟩
    | cons m l ih =>
      intro acc x3 hm hl
      have hm0 := hm m List.mem_cons_self
      have b := isb_ok (m := m) (f := eVar 3) (ρ := [some (.obj n), some (.str c.n), some (.lst (acc.map .str)), some (dM m), none, none, none, none]) (S := S) (var_ok rfl)
      have rl := rawM_len hO hc hm0
      rw [List.length_cons] at hl
      obtain ⟨x3', h⟩ := ih (acc ++ rawM m) (some (dM m)) (fun m h => hm m (List.mem_cons_of_mem _ h)) (by rw [List.length_append]; omega)
      rw [List.map_cons, List.flatMap_cons, ← List.append_assoc]
      refine ⟨x3', (forD_nx (ρ1 := [some (.obj n), some (.str c.n), some (.lst (acc.map .str)), some (dM m), none, none, none, none]) (ρ2 := [some (.obj n), some (.str c.n), some (.lst ((acc ++ rawM m).map .str)), some (dM m), none, none, none, none]) (S2 := S) rfl ?_).trans h⟩
      by_cases q : m.w = bgn ∧ m.ins = []
      · rw [decide_eq_true q] at b
        have rm : rawM m = m.code.filterMap stepN := by unfold rawM; rw [if_pos q]
        have lc := lc_code (S := S) hO hc hm0 (i := 7) (fl := eC (.ctp [.str ("new" : Str), .str ("get" : Str), .str ("put" : Str), .str ("call" : Str), .str ("cast" : Str), .str ("is" : Str)])) (wl := .ctp (nmsW.map .str)) (ρ := [some (.obj n), some (.str c.n), some (.lst (acc.map .str)), some (dM m), none, none, none, none]) (fun w => inF_ctp nmsW w) (fun S => rfl) (fun d => rfl) (by simp)
        rw [← rm] at lc
        have q2 : (acc.map D.str).length + ((rawM m).map D.str).length < LIM := lim_le (by simp; omega)
        refine (if_t b).trans ((ext_ok (S := S) (ds := acc.map .str) (es := (rawM m).map .str) rfl (lc_ok (S1 := S) (seq_okT (ds := m.code) (m_3 (var_ok rfl) (code_all hO hc hm0).1)) lc) q2).trans ?_)
        rw [List.map_append]
        rfl
      · rw [decide_eq_false q] at b
        have rm : rawM m = [] := by unfold rawM; rw [if_neg q]
        rw [rm, List.append_nil]
        exact if_f b
  obtain ⟨x3', e1'⟩ := loop1 c.ms [c.u] none (fun _ h => h) (by simp; omega)
  have er : [c.u] ++ c.ms.flatMap rawM = rawC c := rfl
  rw [er, show ([c.u] : List Str).map D.str = [D.str c.u] from rfl] at e1'
  -- once each
  have loop2 : ∀ (l acc : List Str) (x5 : Option D), acc.length + l.length ≤ 900 → ∃ x5', forD (gtName 5) (sIf (eAnd (e2 notInF (eVar 5) (eTup (aCons (eC (.str ("top" : Str))) (aCons (eVar 1) aNil)))) (e2 notInF (eVar 5) (eVar 4))) (sApp 4 (eVar 5)) sNext) (l.map .str) [some (.obj n), some (.str c.n), some (.lst ((rawC c).map .str)), x3', some (.lst (acc.map .str)), x5, none, none] S = .nx [some (.obj n), some (.str c.n), some (.lst ((rawC c).map .str)), x3', some (.lst ((l.foldl (addU c.n) acc).map .str)), x5', none, none] S := by
    intro l
    induction l with
    | nil => intro acc x5 _; exact ⟨x5, rfl⟩
    | cons o l ih =>
      intro acc x5 hl
      rw [List.length_cons] at hl
      have al := addU_len c.n acc o
      obtain ⟨x5', h⟩ := ih (addU c.n acc o) (some (.str o)) (by omega)
      have n1 : e2 notInF (eVar 5) (eTup (aCons (eC (.str ("top" : Str))) (aCons (eVar 1) aNil))) [some (.obj n), some (.str c.n), some (.lst ((rawC c).map .str)), x3', some (.lst (acc.map .str)), some (.str o), none, none] S = .ok (.bl (!decide (o ∈ [top, c.n]))) S := e2_ok (x := .str o) (y := .tup ([top, c.n].map .str)) (S1 := S) (var_ok rfl) (tup_ok (cons_ok c_ok (cons_ok (var_ok rfl) nil_ok)) (by simp)) (by rw [deref_str, deref_tup, notInF_tup])
      have n2 : e2 notInF (eVar 5) (eVar 4) [some (.obj n), some (.str c.n), some (.lst ((rawC c).map .str)), x3', some (.lst (acc.map .str)), some (.str o), none, none] S = .ok (.bl (!decide (o ∈ acc))) S := e2_ok (x := .str o) (y := .lst (acc.map .str)) (S1 := S) (var_ok rfl) (var_ok rfl) (by rw [deref_str, deref_lst, notInF_lst])
      rw [List.map_cons, List.foldl_cons]
      refine ⟨x5', (forD_nx (ρ1 := [some (.obj n), some (.str c.n), some (.lst ((rawC c).map .str)), x3', some (.lst (acc.map .str)), some (.str o), none, none]) (ρ2 := [some (.obj n), some (.str c.n), some (.lst ((rawC c).map .str)), x3', some (.lst ((addU c.n acc o).map .str)), some (.str o), none, none]) (S2 := S) rfl ?_).trans h⟩
      by_cases q1 : o ∈ [top, c.n]
      · rw [decide_eq_true q1] at n1
        have ea : addU c.n acc o = acc := by
          unfold addU
          rw [if_pos]
          simp only [List.mem_cons, List.not_mem_nil, or_false] at q1
          rcases q1 with q | q
          · exact .inl q
          · exact .inr (.inl q)
        rw [ea]
        exact if_f (and_ff n1)
      · rw [decide_eq_false q1] at n1
        by_cases q2 : o ∈ acc
        · rw [decide_eq_true q2] at n2
          have ea : addU c.n acc o = acc := by unfold addU; rw [if_pos (.inr (.inr q2))]
          rw [ea]
          exact if_f (and_tt n1 n2)
        · rw [decide_eq_false q2] at n2
          have ea : addU c.n acc o = acc ++ [o] := by
            unfold addU
            rw [if_neg]
            rintro (q | q | q)
            · exact q1 (by rw [q]; simp)
            · exact q1 (by rw [q]; simp)
            · exact q2 q
          rw [ea]
          refine (if_t (and_tt n1 n2)).trans ((app_ok (ds := acc.map .str) (d := .str o) (S1 := S) rfl (var_ok rfl) (by simp; omega)).trans ?_)
          rw [List.map_append]
          rfl
  have rln := raw_len hO hc
  obtain ⟨x5', e2'⟩ := loop2 (rawC c) [] none (by simp; omega)
  rw [List.map_nil] at e2'
  refine fn_rt ?_
  show b_used_by [some (.obj n), some (.str c.n), none, none, none, none, none, none] S = _
  unfold b_used_by
  rw [seq_set l0]
  simp only [List.set_cons_succ, List.set_cons_zero]
  rw [seq_nx (for_ok (S1 := S) (seq_okT (ds := c.ms.map dM) (call_ok (cons_ok (var_ok rfl) (cons_ok (var_ok rfl) nil_ok)) (methodsat_ok hh hO hc))) e1')]
  rw [seq_set (d := .lst []) (S' := S) (lst_ok nil_ok (by simp))]
  simp only [List.set_cons_succ, List.set_cons_zero]
  rw [seq_nx (for_ok (S1 := S) (seq_ok (ds := (rawC c).map .str) (var_ok rfl)) e2')]
  rw [eu]
  exact ret_ok (var_ok rfl)
end
end K86

set_option maxHeartbeats 4000000
namespace K86
open DL PySem PySem.Spec PyProof.Rows L2 H Hr
/-! ### the law's uses -/
section
variable {S : Sto} {n : Nat} {cs : List Cl} {c : Cl}
theorem filt_one (hO : HouseOk cs) (hc : c ∈ cs) : cs.filter (fun c' => decide (c'.n = c.n)) = [c] := by
  have nd : (cs.map Cl.n).Nodup := (List.nodup_cons.mp hO.tr.nodup).2
  have key : ∀ l : List Cl, (l.map Cl.n).Nodup → c ∈ l → l.filter (fun c' => decide (c'.n = c.n)) = [c] := by
    intro l
    induction l with
    | nil => intro _ h; cases h
    | cons a l ih =>
      intro h hm
      rw [List.map_cons, List.nodup_cons] at h
      rcases List.mem_cons.mp hm with rfl | hm
      · rw [List.filter_cons_of_pos (by simp)]
        congr 1
        refine List.filter_eq_nil_iff.mpr fun x hx => ?_
        simp only [decide_eq_true_eq]
        intro q
        exact h.1 (List.mem_map.mpr ⟨x, hx, q⟩)
      · have : a.n ≠ c.n := fun q => h.1 (q ▸ List.mem_map.mpr ⟨c, hm, rfl⟩)
        rw [List.filter_cons_of_neg (by simpa using this)]
        exact ih h.2 hm
  exact key cs nd hc
theorem lawuses_ok (hO : HouseOk cs) (hc : c ∈ cs) : f__law_uses [dCs cs, .str c.n] S = .ok (.lst ((uses cs c.n).map .str)) S := by
  have h8 := hO.len
  have ml := (hO.small.2 c hc).2
  have eu : uses cs c.n = dd c.n (rawC c) := by unfold uses; rw [clAt_of hO hc]
  have lc0 := lcD_filt (g := gtName 7) (fc := e2 eqF (e2 ixF (eVar 7) (eC (.int 0))) (eVar 1)) (fe := eVar 7) (ρ := [some (dCs cs), some (.str c.n), none, none, none, none, none, none, none]) (S := S) dC dC (fun c' => decide (c'.n = c.n)) (l := cs) (acc := []) (fun c' _ => ⟨_, rfl, e2_ok (x := .str c'.n) (y := .str c.n) (S1 := S) (c_0 (var_ok rfl)) (var_ok rfl) (by rw [deref_str, deref_str, eqF_str]), fun _ => var_ok rfl⟩)
  rw [filt_one hO hc, List.nil_append, List.map_cons, List.map_nil] at lc0
  have x2 : e2 ixF (eLc [7] (iSeq (eVar 0)) (gtName 7) (e2 eqF (e2 ixF (eVar 7) (eC (.int 0))) (eVar 1)) (eVar 7)) (eC (.int 0)) [some (dCs cs), some (.str c.n), none, none, none, none, none, none, none] S = .ok (dC c) S := e2_ok (x := .lst [dC c]) (S1 := S) (lc_ok (S1 := S) (seq_okT (ds := cs.map dC) (var_ok rfl)) lc0) c_ok (by simp [deref_lst, deref_int, ixF, ixS, atI_0])
  have loop1 : ∀ (l : List Me) (acc : List Str) (x4 : Option D), (∀ m ∈ l, m ∈ c.ms) → acc.length + l.length * 20 ≤ 900 → ∃ x4', forD (gtName 4) (sIf (eAnd (e2 eqF (e2 ixF (eVar 4) (eC (.int 0))) (eC (.str ("begin" : Str)))) (e2 eqE (e2 ixF (eVar 4) (eC (.int 1))) (eTup aNil))) (sSet 3 (e2 addF (eVar 3) (eLc [8] (iSeq (e2 ixF (eVar 4) (eC (.int 3)))) (gtName 8) (e2 inF (e2 ixF (eVar 8) (eC (.int 0))) (eLst (aCons (eC (.str ("new" : Str))) (aCons (eC (.str ("get" : Str))) (aCons (eC (.str ("put" : Str))) (aCons (eC (.str ("call" : Str))) (aCons (eC (.str ("cast" : Str))) (aCons (eC (.str ("is" : Str))) aNil)))))))) (e2 ixF (eVar 8) (eC (.int 1)))))) sNext) (l.map dM) [some (dCs cs), some (.str c.n), some (dC c), some (.lst (acc.map .str)), x4, none, none, none, none] S = .nx [some (dCs cs), some (.str c.n), some (dC c), some (.lst ((acc ++ l.flatMap rawM).map .str)), x4', none, none, none, none] S := by
    intro l
    induction l with
    | nil => intro acc x4 _ _; exact ⟨x4, by simp [forD]⟩
    | cons m l ih =>
      intro acc x4 hm hl
      have hm0 := hm m List.mem_cons_self
      have b := isb_ok (m := m) (f := eVar 4) (ρ := [some (dCs cs), some (.str c.n), some (dC c), some (.lst (acc.map .str)), some (dM m), none, none, none, none]) (S := S) (var_ok rfl)
      have rl := rawM_len hO hc hm0
      rw [List.length_cons] at hl
      obtain ⟨x4', h⟩ := ih (acc ++ rawM m) (some (dM m)) (fun m h => hm m (List.mem_cons_of_mem _ h)) (by rw [List.length_append]; omega)
      rw [List.map_cons, List.flatMap_cons, ← List.append_assoc]
      refine ⟨x4', (forD_nx (ρ1 := [some (dCs cs), some (.str c.n), some (dC c), some (.lst (acc.map .str)), some (dM m), none, none, none, none]) (ρ2 := [some (dCs cs), some (.str c.n), some (dC c), some (.lst ((acc ++ rawM m).map .str)), some (dM m), none, none, none, none]) (S2 := S) rfl ?_).trans h⟩
      by_cases q : m.w = bgn ∧ m.ins = []
      · rw [decide_eq_true q] at b
        have rm : rawM m = m.code.filterMap stepN := by unfold rawM; rw [if_pos q]
        have lc := lc_code (S := S) hO hc hm0 (i := 8) (fl := eLst (aCons (eC (.str ("new" : Str))) (aCons (eC (.str ("get" : Str))) (aCons (eC (.str ("put" : Str))) (aCons (eC (.str ("call" : Str))) (aCons (eC (.str ("cast" : Str))) (aCons (eC (.str ("is" : Str))) aNil))))))) (wl := .lst (nmsW.map .str)) (ρ := [some (dCs cs), some (.str c.n), some (dC c), some (.lst (acc.map .str)), some (dM m), none, none, none, none]) (fun w => inF_lst nmsW w) (fun S => rfl) (fun d => lst_ok (cons_ok c_ok (cons_ok c_ok (cons_ok c_ok (cons_ok c_ok (cons_ok c_ok (cons_ok c_ok nil_ok)))))) (by decide)) (by simp)
        rw [← rm] at lc
        have q2 : acc.length + (rawM m).length < LIM := lim_le (by omega)
        refine (if_t b).trans ((set_ok (d := .lst ((acc ++ rawM m).map .str)) (S' := S) (e2_ok (x := .lst (acc.map .str)) (y := .lst ((rawM m).map .str)) (S1 := S) (var_ok rfl) (lc_ok (S1 := S) (seq_okT (ds := m.code) (m_3 (var_ok rfl) (code_all hO hc hm0).1)) lc) (by
          rw [deref_lst, deref_lst, List.map_append]
          simp only [addF, List.length_map, if_pos q2]))).trans rfl)
      · rw [decide_eq_false q] at b
        have rm : rawM m = [] := by unfold rawM; rw [if_neg q]
        rw [rm, List.append_nil]
        exact if_f b
  obtain ⟨x4', e1'⟩ := loop1 c.ms [c.u] none (fun _ h => h) (by simp; omega)
  have er : [c.u] ++ c.ms.flatMap rawM = rawC c := rfl
  rw [er, show ([c.u] : List Str).map D.str = [D.str c.u] from rfl] at e1'
  have loop2 : ∀ (l acc : List Str) (x6 : Option D), acc.length + l.length ≤ 900 → ∃ x6', forD (gtName 6) (sSet 5 (e2 addF (eVar 5) (eRep (eLst (aCons (eVar 6) aNil)) (eN (f1 intF) (aCons (e2 notInF (eVar 6) (e2 addF (eVar 5) (eLst (aCons (eC (.str ("top" : Str))) (aCons (eVar 1) aNil))))) aNil))))) (l.map .str) [some (dCs cs), some (.str c.n), some (dC c), some (.lst ((rawC c).map .str)), x4', some (.lst (acc.map .str)), x6, none, none] S = .nx [some (dCs cs), some (.str c.n), some (dC c), some (.lst ((rawC c).map .str)), x4', some (.lst ((l.foldl (addU c.n) acc).map .str)), x6', none, none] S := by
    intro l
    induction l with
    | nil => intro acc x6 _; exact ⟨x6, rfl⟩
    | cons o l ih =>
      intro acc x6 hl
      rw [List.length_cons] at hl
      have al := addU_len c.n acc o
      obtain ⟨x6', h⟩ := ih (addU c.n acc o) (some (.str o)) (by omega)
      have q1 : acc.length + 2 < LIM := lim_le (by omega)
      have ad : e2 addF (eVar 5) (eLst (aCons (eC (.str ("top" : Str))) (aCons (eVar 1) aNil))) [some (dCs cs), some (.str c.n), some (dC c), some (.lst ((rawC c).map .str)), x4', some (.lst (acc.map .str)), some (.str o), none, none] S = .ok (.lst ((acc ++ [top, c.n]).map .str)) S := e2_ok (x := .lst (acc.map .str)) (y := .lst ([top, c.n].map .str)) (S1 := S) (var_ok rfl) (lst_ok (cons_ok c_ok (cons_ok (var_ok rfl) nil_ok)) (by simp)) (by
        rw [deref_lst, deref_lst, List.map_append]
        simp only [addF, List.length_map]
        rw [if_pos (by simpa using q1)])
      have n1 : e2 notInF (eVar 6) (e2 addF (eVar 5) (eLst (aCons (eC (.str ("top" : Str))) (aCons (eVar 1) aNil)))) [some (dCs cs), some (.str c.n), some (dC c), some (.lst ((rawC c).map .str)), x4', some (.lst (acc.map .str)), some (.str o), none, none] S = .ok (.bl (!decide (o ∈ acc ++ [top, c.n]))) S := e2_ok (x := .str o) (y := .lst ((acc ++ [top, c.n]).map .str)) (S1 := S) (var_ok rfl) ad (by rw [deref_str, deref_lst, notInF_lst])
      have ni : eN (f1 intF) (aCons (e2 notInF (eVar 6) (e2 addF (eVar 5) (eLst (aCons (eC (.str ("top" : Str))) (aCons (eVar 1) aNil))))) aNil) [some (dCs cs), some (.str c.n), some (dC c), some (.lst ((rawC c).map .str)), x4', some (.lst (acc.map .str)), some (.str o), none, none] S = .ok (.int (if (!decide (o ∈ acc ++ [top, c.n])) = true then 1 else 0)) S := eN_ok (ds := [.bl (!decide (o ∈ acc ++ [top, c.n]))]) (cons_ok n1 nil_ok) rfl
      have li : eLst (aCons (eVar 6) aNil) [some (dCs cs), some (.str c.n), some (dC c), some (.lst ((rawC c).map .str)), x4', some (.lst (acc.map .str)), some (.str o), none, none] S = .ok (.lst [.str o]) S := lst_ok (cons_ok (var_ok rfl) nil_ok) (by simp)
      have rep : ∃ z : List Str, eRep (eLst (aCons (eVar 6) aNil)) (eN (f1 intF) (aCons (e2 notInF (eVar 6) (e2 addF (eVar 5) (eLst (aCons (eC (.str ("top" : Str))) (aCons (eVar 1) aNil))))) aNil)) [some (dCs cs), some (.str c.n), some (dC c), some (.lst ((rawC c).map .str)), x4', some (.lst (acc.map .str)), some (.str o), none, none] S = .ok (.lst (z.map .str)) S ∧ addU c.n acc o = acc ++ z ∧ z.length ≤ 1 := by
        simp only [eRep, li, ni, Res.bind_ok]
        by_cases q : o ∈ acc ++ [top, c.n]
        · refine ⟨[], by rw [decide_eq_true q]; rfl, ?_, by simp⟩
          unfold addU
          rw [if_pos, List.append_nil]
          simp only [List.mem_append, List.mem_cons, List.not_mem_nil, or_false] at q
          rcases q with q | q | q
          · exact .inr (.inr q)
          · exact .inl q
          · exact .inr (.inl q)
        · refine ⟨[o], by rw [decide_eq_false q]; rfl, ?_, by simp⟩
          unfold addU
          rw [if_neg]
          simp only [List.mem_append, List.mem_cons, List.not_mem_nil, or_false] at q
          rintro (z | z | z)
          · exact q (.inr (.inl z))
          · exact q (.inr (.inr z))
          · exact q (.inl z)
      obtain ⟨z, ez, ea, zl⟩ := rep
      have q3 : acc.length + z.length < LIM := lim_le (by omega)
      rw [List.map_cons, List.foldl_cons]
      refine ⟨x6', (forD_nx (ρ1 := [some (dCs cs), some (.str c.n), some (dC c), some (.lst ((rawC c).map .str)), x4', some (.lst (acc.map .str)), some (.str o), none, none]) (ρ2 := [some (dCs cs), some (.str c.n), some (dC c), some (.lst ((rawC c).map .str)), x4', some (.lst ((addU c.n acc o).map .str)), some (.str o), none, none]) (S2 := S) rfl ?_).trans h⟩
      refine (set_ok (d := .lst ((addU c.n acc o).map .str)) (S' := S) (e2_ok (x := .lst (acc.map .str)) (y := .lst (z.map .str)) (S1 := S) (var_ok rfl) ez (by
        rw [deref_lst, deref_lst, ea, List.map_append]
        simp only [addF, List.length_map, if_pos q3]))).trans rfl
  have rln := raw_len hO hc
  obtain ⟨x6', e2'⟩ := loop2 (rawC c) [] none (by simp; omega)
  rw [List.map_nil] at e2'
  refine fn_rt ?_
  show b__law_uses [some (dCs cs), some (.str c.n), none, none, none, none, none, none, none] S = _
  unfold b__law_uses
  rw [seq_set x2]
  simp only [List.set_cons_succ, List.set_cons_zero]
  rw [seq_set (d := .lst [.str c.u]) (S' := S) (lst_ok (cons_ok (c_1 (var_ok rfl)) nil_ok) (by simp))]
  simp only [List.set_cons_succ, List.set_cons_zero]
  rw [seq_nx (for_ok (S1 := S) (seq_okT (ds := c.ms.map dM) (c_3 (var_ok rfl))) e1')]
  rw [seq_set (d := .lst []) (S' := S) (lst_ok nil_ok (by simp))]
  simp only [List.set_cons_succ, List.set_cons_zero]
  rw [seq_nx (for_ok (S1 := S) (seq_ok (ds := (rawC c).map .str) (var_ok rfl)) e2')]
  rw [eu]
  exact ret_ok (var_ok rfl)
theorem us_ok (hO : HouseOk cs) (h7 : cs.length ≤ 7) : UsOk (cs.map Cl.n) (uses cs) := by
  have nd : (cs.map Cl.n).Nodup := (List.nodup_cons.mp hO.tr.nodup).2
  have sub : ∀ n ∈ cs.map Cl.n, ∀ o ∈ uses cs n, o ∈ cs.map Cl.n := by
    intro n hn o ho
    obtain ⟨c, hc, rfl⟩ := List.mem_map.mp hn
    have eu : uses cs c.n = dd c.n (rawC c) := by unfold uses; rw [clAt_of hO hc]
    rw [eu] at ho
    obtain ⟨⟨_, h2⟩, h3⟩ := dd_fold c.n (rawC c) [] ⟨.nil, by simp⟩
    have ht := (h2 o ho).1
    have hr : o ∈ rawC c := by
      rcases h3 o ho with q | q
      · cases q
      · exact q
    have hin : o ∈ names cs := by
      unfold rawC at hr
      rcases List.mem_cons.mp hr with rfl | hr
      · obtain ⟨i, hi⟩ := List.mem_iff_getElem?.mp hc
        exact names_take (hO.cl i c hi).up
      · obtain ⟨m, hm, hr⟩ := List.mem_flatMap.mp hr
        unfold rawM at hr
        split at hr
        · obtain ⟨d, hd, e⟩ := List.mem_filterMap.mp hr
          obtain ⟨xs, rfl, hx⟩ := (code_all hO hc hm).2.2 d hd
          refine stepN_names hx ?_ ?_ e
          · intro n f hf
            obtain ⟨u, hu, _⟩ := List.mem_map.mp hf
            obtain ⟨u', hu', _⟩ := List.mem_flatMap.mp hu
            exact rowOf_name hu'
          · intro n f hf
            obtain ⟨u, hu, _⟩ := List.mem_map.mp hf
            obtain ⟨u', hu', _⟩ := List.mem_flatMap.mp hu
            exact rowOf_name hu'
        · cases hr
    rcases List.mem_cons.mp hin with q | q
    · exact absurd q ht
    · exact q
  refine ⟨nd, by simpa using h7, sub, fun n hn => ?_⟩
  obtain ⟨c, hc, rfl⟩ := List.mem_map.mp hn
  have eu : uses cs c.n = dd c.n (rawC c) := by unfold uses; rw [clAt_of hO hc]
  have h1 : (uses cs c.n).Nodup := by
    rw [eu]
    exact (dd_fold c.n (rawC c) [] ⟨.nil, by simp⟩).1.1
  have := nodup_le h1 (sub c.n hn)
  simp at this
  omega
end
end K86

set_option maxHeartbeats 4000000
namespace K86
open DL PySem PySem.Spec PyProof.Rows L2 H Hr
def pB (self : FF) : SF := (sSeq (sIf (eOr (e2 inF (eVar 5) (eVar 2)) (e2 eqF (eVar 5) (eVar 1))) (sAppE (eVar 4) (eTup (aCons (eVar 1) (aCons (eVar 5) aNil)))) sNext)
  (sExpr (eCall self (aCons (eVar 0) (aCons (eVar 5) (aCons (eLst (aStar (eVar 2) (aCons (eVar 1) aNil))) (aCons (eVar 3) (aCons (eVar 4) aNil))))))))
def dE2 (p : Str × Str) : D := .tup [.str p.1, .str p.2]
/-- a store whose last two lists tell those that have begun, and those met early -/
def ap (S : Sto) (s : Bg) : Sto := S ++ [.lst (s.1.map .str), .lst (s.2.map dE2)]
section
variable {S : Sto} {s : Bg}
theorem ap_a : (ap S s)[S.length]? = some (.lst (s.1.map .str)) := by
  unfold ap
  rw [List.getElem?_append_right (Nat.le_refl _), Nat.sub_self]
  rfl
theorem ap_b : (ap S s)[S.length + 1]? = some (.lst (s.2.map dE2)) := by
  unfold ap
  rw [List.getElem?_append_right (by omega), show S.length + 1 - S.length = 1 by omega]
  rfl
theorem set_a (x : Str) : (ap S s).set S.length (.lst (s.1.map D.str ++ [.str x])) = ap S (s.1 ++ [x], s.2) := by
  unfold ap
  rw [List.set_append_right _ _ (Nat.le_refl _), Nat.sub_self]
  simp
theorem set_b (p : Str × Str) : (ap S s).set (S.length + 1) (.lst (s.2.map dE2 ++ [dE2 p])) = ap S (s.1, s.2 ++ [p]) := by
  unfold ap
  rw [List.set_append_right _ _ (by omega), show S.length + 1 - S.length = 1 by omega]
  simp
theorem der_a : deref (ap S s) (.obj S.length) = .lst (s.1.map .str) := by
  unfold deref
  simp only [ap_a]
theorem der_b : deref (ap S s) (.obj (S.length + 1)) = .lst (s.2.map dE2) := by
  unfold deref
  simp only [ap_b]
theorem hat_ap {h : Nat} {cs : List Cl} (hh : HAt S h cs) : HAt (ap S s) h cs := by
  unfold HAt at hh ⊢
  unfold ap
  rw [List.getElem?_append_left (List.getElem?_eq_some_iff.mp hh).1]
  exact hh
theorem appE_ok {fo f : EF} {ρ : DEnv} {T : Sto} {n : Nat} {ds : List D} {d : D} (h1 : fo ρ T = .ok (.obj n) T) (h2 : T[n]? = some (.lst ds)) (h3 : f ρ T = .ok d T) (hl : ds.length < LIM) : sAppE fo f ρ T = .nx ρ (T.set n (.lst (ds ++ [d]))) := by
  simp only [sAppE, sBind, h1, h2, h3, appTo, if_pos hl]
theorem fn_rtnx {n : Nat} {fb : SF} {ds : List D} {T T' : Sto} (h : fb (ds.map some ++ List.replicate (n - ds.length) none) T = .rt .non T' ∨ ∃ ρ', fb (ds.map some ++ List.replicate (n - ds.length) none) T = .nx ρ' T') : fnD n fb ds T = .ok .non T' := by
  rcases h with h | ⟨ρ', h⟩
  · exact fn_rt h
  · exact fn_nx h
theorem retN_ok {ρ : DEnv} {T : Sto} : sRetN ρ T = .rt .non T := rfl
end
/-- no more pairs than there may be -/
def Sz (line : List Str) (s : Bg) : Prop := s.2.length ≤ 7 * s.1.length + 7 * line.length
section
variable {S : Sto} {h : Nat} {cs : List Cl}
theorem str_in (l : List Str) (n : Str) {T : Sto} {f1' f2' : EF} {ρ : DEnv} (h1 : f1' ρ T = .ok (.str n) T) (h2 : f2' ρ T = .ok (.lst (l.map .str)) T) : e2 inF f1' f2' ρ T = .ok (.bl (decide (n ∈ l))) T := e2_ok (x := .str n) (y := .lst (l.map .str)) (S1 := T) h1 h2 (by rw [deref_str, deref_lst, inF_lst])
theorem begun_ok (hh : HAt S h cs) (hO : HouseOk cs) (hu : UsOk (cs.map Cl.n) (uses cs)) : ∀ (k : Nat) (nm : Str) (line : List Str) (s : Bg), nm ∈ cs.map Cl.n → Pre (cs.map Cl.n) k line s → Iv (cs.map Cl.n) (uses cs) s → Sz line s →
    f_begun k [.obj h, .str nm, .lst (line.map .str), .obj S.length, .obj (S.length + 1)] (ap S s) = .ok .non (ap S (beg (uses cs) k nm line s))
  | 0, nm, line, s, hn, hp, hi, hz => by
    have := nodup_le hp.nd hp.sub
    have := hp.fuel
    omega
  | k + 1, nm, line, s, hn, hp, hi, hz => by
    have hN := hu.len
    have hlL := nodup_le hp.nd hp.sub
    have in_d : ∀ (ρ : DEnv) (s : Bg) (n : Str), ρ[1]? = some (some (.str n)) → ρ[3]? = some (some (.obj S.length)) → e2 inF (eVar 1) (eVar 3) ρ (ap S s) = .ok (.bl (decide (n ∈ s.1))) (ap S s) := fun ρ s n h1 h3 => e2_ok (x := .str n) (y := .obj S.length) (S1 := ap S s) (var_ok h1) (var_ok h3) (by rw [deref_str, der_a, inF_lst])
    have c0 := in_d [some (.obj h), some (.str nm), some (.lst (line.map .str)), some (.obj S.length), some (.obj (S.length + 1)), none] s nm rfl rfl
    have c1 := str_in line nm (T := ap S s) (f1' := eVar 1) (f2' := eVar 2) (ρ := [some (.obj h), some (.str nm), some (.lst (line.map .str)), some (.obj S.length), some (.obj (S.length + 1)), none]) (var_ok rfl) (var_ok rfl)
    refine fn_rtnx ?_
    show b_begun (f_begun k) [some (.obj h), some (.str nm), some (.lst (line.map .str)), some (.obj S.length), some (.obj (S.length + 1)), none] (ap S s) = _ ∨ _
    unfold b_begun
    unfold beg
    by_cases c : nm ∈ s.1 ∨ nm ∈ line
    · left
      rw [if_pos c]
      refine seq_rt ((if_t ?_).trans retN_ok)
      by_cases q : nm ∈ s.1
      · rw [decide_eq_true q] at c0
        exact or_tt c0
      · rw [decide_eq_false q] at c0
        rw [decide_eq_true (c.resolve_left q)] at c1
        exact or_ff c0 c1
    · right
      rw [if_neg c]
      have q1 : nm ∉ s.1 := fun h => c (.inl h)
      have q2 : nm ∉ line := fun h => c (.inr h)
      rw [decide_eq_false q1] at c0
      rw [decide_eq_false q2] at c1
      have nl : (line ++ [nm]).Nodup := by
        rw [List.nodup_append]
        refine ⟨hp.nd, by simp, fun a ha b hb => ?_⟩
        rw [List.mem_singleton] at hb
        subst hb
        exact fun q => q2 (q ▸ ha)
      have sl : ∀ n ∈ line ++ [nm], n ∈ cs.map Cl.n := fun n hm => by
        rcases List.mem_append.mp hm with hm | hm
        · exact hp.sub n hm
        · rw [List.mem_singleton] at hm; rw [hm]; exact hn
      obtain ⟨c', hc', en⟩ := List.mem_map.mp hn
      have ul := hu.ul nm hn
      have us := usedby_ok (S := ap S s) (hat_ap hh) hO hc'
      rw [en] at us
      have loop : ∀ (l : List Str), (∀ o ∈ l, o ∈ cs.map Cl.n) → ∀ (s0 : Bg) (x5 : Option D), Iv (cs.map Cl.n) (uses cs) s0 → (∀ n ∈ line ++ [nm], n ∉ s0.1) → s0.2.length + l.length ≤ 7 * s0.1.length + 7 * line.length + 7 →
          ∃ x5', forD (gtName 5) (pB (f_begun k)) (l.map .str) [some (.obj h), some (.str nm), some (.lst (line.map .str)), some (.obj S.length), some (.obj (S.length + 1)), x5] (ap S s0) = .nx [some (.obj h), some (.str nm), some (.lst (line.map .str)), some (.obj S.length), some (.obj (S.length + 1)), x5'] (ap S (l.foldl (fun s o => beg (uses cs) k o (line ++ [nm]) (s.1, early line nm o s.2)) s0)) := by
        intro l
        induction l with
        | nil => intro _ s0 x5 _ _ _; exact ⟨x5, rfl⟩
        | cons o l ih =>
          intro hl s0 x5 h0 h1 h2
          have ho := hl o List.mem_cons_self
          have iv0 : Iv (cs.map Cl.n) (uses cs) (s0.1, early line nm o s0.2) := Iv.more (d := s0.1) (e := s0.2) h0 (early_sub line nm o s0.2)
          have pr : Pre (cs.map Cl.n) k (line ++ [nm]) (s0.1, early line nm o s0.2) := ⟨nl, sl, by have := hp.fuel; simp at this ⊢; omega, h1⟩
          have el := early_len line nm o s0.2
          have d7 := nodup_le h0.nd h0.sub
          rw [List.length_cons] at h2
          have z0 : Sz (line ++ [nm]) (s0.1, early line nm o s0.2) := by
            unfold Sz
            simp only [List.length_append, List.length_singleton]
            omega
          obtain ⟨p1, _⟩ := beg_post hu k o (line ++ [nm]) (s0.1, early line nm o s0.2) ho pr iv0
          have pl := p1.len
          have b1 := begun_ok hh hO hu k o (line ++ [nm]) (s0.1, early line nm o s0.2) ho pr iv0 z0
          obtain ⟨x5', e⟩ := ih (fun o h => hl o (List.mem_cons_of_mem _ h)) _ (some (.str o)) p1.iv p1.dis (by simp only at pl; omega)
          rw [List.map_cons, List.foldl_cons]
          refine ⟨x5', (forD_nx (ρ1 := [some (.obj h), some (.str nm), some (.lst (line.map .str)), some (.obj S.length), some (.obj (S.length + 1)), some (.str o)]) (ρ2 := [some (.obj h), some (.str nm), some (.lst (line.map .str)), some (.obj S.length), some (.obj (S.length + 1)), some (.str o)]) (S2 := ap S (beg (uses cs) k o (line ++ [nm]) (s0.1, early line nm o s0.2))) rfl ?_).trans e⟩
          have i1 := str_in line o (T := ap S s0) (f1' := eVar 5) (f2' := eVar 2) (ρ := [some (.obj h), some (.str nm), some (.lst (line.map .str)), some (.obj S.length), some (.obj (S.length + 1)), some (.str o)]) (var_ok rfl) (var_ok rfl)
          have i2 : e2 eqF (eVar 5) (eVar 1) [some (.obj h), some (.str nm), some (.lst (line.map .str)), some (.obj S.length), some (.obj (S.length + 1)), some (.str o)] (ap S s0) = .ok (.bl (decide (o = nm))) (ap S s0) := e2_ok (x := .str o) (y := .str nm) (S1 := ap S s0) (var_ok rfl) (var_ok rfl) (by rw [deref_str, deref_str, eqF_str])
          have fst : (sIf (eOr (e2 inF (eVar 5) (eVar 2)) (e2 eqF (eVar 5) (eVar 1))) (sAppE (eVar 4) (eTup (aCons (eVar 1) (aCons (eVar 5) aNil)))) sNext) [some (.obj h), some (.str nm), some (.lst (line.map .str)), some (.obj S.length), some (.obj (S.length + 1)), some (.str o)] (ap S s0) = .nx [some (.obj h), some (.str nm), some (.lst (line.map .str)), some (.obj S.length), some (.obj (S.length + 1)), some (.str o)] (ap S (s0.1, early line nm o s0.2)) := by
            have yes : (sAppE (eVar 4) (eTup (aCons (eVar 1) (aCons (eVar 5) aNil)))) [some (.obj h), some (.str nm), some (.lst (line.map .str)), some (.obj S.length), some (.obj (S.length + 1)), some (.str o)] (ap S s0) = .nx [some (.obj h), some (.str nm), some (.lst (line.map .str)), some (.obj S.length), some (.obj (S.length + 1)), some (.str o)] (ap S (s0.1, s0.2 ++ [(nm, o)])) := by
              refine (appE_ok (n := S.length + 1) (ds := s0.2.map dE2) (d := dE2 (nm, o)) (var_ok rfl) ap_b (tup_ok (cons_ok (var_ok rfl) (cons_ok (var_ok rfl) nil_ok)) (by simp)) (by rw [List.length_map]; exact lim_le (by omega))).trans ?_
              rw [set_b]
            unfold early
            by_cases d1 : o ∈ line
            · rw [decide_eq_true d1] at i1
              rw [if_pos (.inl d1)]
              exact (if_t (or_tt i1)).trans yes
            · rw [decide_eq_false d1] at i1
              by_cases d2 : o = nm
              · rw [decide_eq_true d2] at i2
                rw [if_pos (.inr d2)]
                exact (if_t (or_ff i1 i2)).trans yes
              · rw [decide_eq_false d2] at i2
                rw [if_neg (by rintro (z | z); exact d1 z; exact d2 z)]
                exact if_f (or_ff i1 i2)
          unfold pB
          rw [seq_nx fst]
          have v2 : ∀ (ρ : DEnv) (T : Sto), ρ[2]? = some (some (.lst (line.map .str))) → ρ[1]? = some (some (.str nm)) → eLst (aStar (eVar 2) (aCons (eVar 1) aNil)) ρ T = .ok (.lst ((line ++ [nm]).map .str)) T := fun ρ T h2 h1 => by
            have a : aCons (eVar 1) aNil ρ T = .ok [.str nm] T := cons_ok (var_ok h1) nil_ok
            have b : eVar 2 ρ T = .ok (.lst (line.map .str)) T := var_ok h2
            rw [List.map_append]
            exact lst_ok (by simp only [aStar, b, deref_lst, itemsD, a, List.map_cons, List.map_nil]) (by simp; omega)
          exact expr_ok (call_ok (cons_ok (var_ok rfl) (cons_ok (var_ok rfl) (cons_ok (v2 _ _ rfl rfl) (cons_ok (var_ok rfl) (cons_ok (var_ok rfl) nil_ok))))) b1)
      have hzz : s.2.length + (uses cs nm).length ≤ 7 * s.1.length + 7 * line.length + 7 := by
        unfold Sz at hz
        omega
      obtain ⟨x5', e⟩ := loop (uses cs nm) (hu.sub nm hn) s none hi (fun n hm => by
        rcases List.mem_append.mp hm with hm | hm
        · exact hp.dis n hm
        · rw [List.mem_singleton] at hm; rw [hm]; exact q1) hzz
      have pp := beg_post hu (k + 1) nm line s hn hp hi
      have dd7 := nodup_le pp.1.iv.nd pp.1.iv.sub
      unfold beg at dd7
      rw [if_neg c] at dd7
      generalize (uses cs nm).foldl (fun s o => beg (uses cs) k o (line ++ [nm]) (s.1, early line nm o s.2)) s = s1 at e dd7 ⊢
      simp only [List.length_append, List.length_singleton] at dd7
      refine ⟨[some (.obj h), some (.str nm), some (.lst (line.map .str)), some (.obj S.length), some (.obj (S.length + 1)), x5'], ?_⟩
      show sSeq _ _ [some (.obj h), some (.str nm), some (.lst (line.map .str)), some (.obj S.length), some (.obj (S.length + 1)), none] (ap S s) = _
      rw [seq_skip (S' := ap S s) (or_ff c0 c1)]
      unfold pB at e
      rw [seq_nx (for_ok (S1 := ap S s) (seq_ok (ds := (uses cs nm).map .str) (call_ok (cons_ok (var_ok rfl) (cons_ok (var_ok rfl) nil_ok)) us)) e)]
      refine (appE_ok (n := S.length) (ds := s1.1.map .str) (d := .str nm) (var_ok rfl) ap_a (var_ok rfl) (by rw [List.length_map]; exact lim_le (by omega))).trans ?_
      rw [set_a]
end
end K86

set_option maxHeartbeats 4000000
namespace K86
open DL PySem PySem.Spec PyProof.Rows L2 H Hr
section
variable {S : Sto} {h : Nat} {cs : List Cl}
theorem isLT {ρ : DEnv} {f : EF} {X : D} {ds : List D} (hX : X = .lst ds ∨ X = .tup ds) (e : f ρ S = .ok X S) : e1 (isF tb_list_tuple to_list_tuple) f ρ S = .ok (.bl true) S := by
  rcases hX with rfl | rfl
  · exact e1_ok (x := .lst ds) (S1 := S) e (by rw [deref_lst]; unfold isF; rfl)
  · exact e1_ok (x := .tup ds) (S1 := S) e (by rw [deref_tup]; unfold isF; rfl)
theorem seqX {ρ : DEnv} {f : EF} {X : D} {ds : List D} (hX : X = .lst ds ∨ X = .tup ds) (e : f ρ S = .ok X S) : iSeq f ρ S = .ok ds S := by
  rcases hX with rfl | rfl
  · exact seq_ok e
  · exact seq_okT e
theorem neednames_ok (hh : HAt S h cs) (hO : HouseOk cs) {l : List Str} {X : D} (hX : X = .lst (l.map .str) ∨ X = .tup (l.map .str)) (hl : ∀ n ∈ l, n ∈ cs.map Cl.n) (ll : l.length ≤ 100) : f_need_names [.obj h, X] S = .ok .non S := by
  have h8 := hO.len
  have lc := lcD_map (g := gtName 5) (fe := e2 ixF (eVar 5) (eC (.int 0))) (ρ := [some (.obj h), some X, none, none, none, none]) (S := S) dC (fun c => .str c.n) (l := cs) (acc := []) (fun c _ => ⟨_, rfl, c_0 (var_ok rfl)⟩)
  have em : cs.map (fun c => D.str c.n) = (cs.map Cl.n).map .str := by rw [List.map_map]; rfl
  rw [List.nil_append, em] at lc
  obtain ⟨ρ', e, x3, x4, rfl⟩ := forD_keep (g := gtTup (gtCons (gtName 3) (gtCons (gtName 4) gtNil))) (body := (sIf (eOr (eNot (e1 (isF tb_str to_str) (eVar 4))) (e2 notInF (eVar 4) (eVar 2))) sNever sNext)) (S := S) (fun ρ => ∃ x3 x4, ρ = [some (.obj h), some X, some (.lst ((cs.map Cl.n).map .str)), x3, x4, none]) (xs := enD 0 (l.map .str)) (ρ := [some (.obj h), some X, some (.lst ((cs.map Cl.n).map .str)), none, none, none]) ⟨_, _, rfl⟩ (by
    rintro d ρ hd ⟨x3, x4, rfl⟩
    obtain ⟨i, y, rfl, hy⟩ := enD_mem hd
    obtain ⟨n, hn, rfl⟩ := List.mem_map.mp hy
    have v4 : eVar 4 [some (.obj h), some X, some (.lst ((cs.map Cl.n).map .str)), some (.int i), some (.str n), none] S = .ok (.str n) S := var_ok rfl
    have s4 : e1 (isF tb_str to_str) (eVar 4) [some (.obj h), some X, some (.lst ((cs.map Cl.n).map .str)), some (.int i), some (.str n), none] S = .ok (.bl true) S := e1_ok (x := .str n) (S1 := S) v4 (by rw [deref_str]; unfold isF; rfl)
    have n4 : e2 notInF (eVar 4) (eVar 2) [some (.obj h), some X, some (.lst ((cs.map Cl.n).map .str)), some (.int i), some (.str n), none] S = .ok (.bl false) S := e2_ok (x := .str n) (y := .lst ((cs.map Cl.n).map .str)) (S1 := S) v4 (var_ok rfl) (by rw [deref_str, deref_lst, notInF_lst, decide_eq_true (hl n hn)]; rfl)
    exact ⟨_, _, rfl, if_f (S' := S) (or_ff (not_ok (b := true) s4) n4), _, _, rfl⟩)
  refine fn_nx (ρ' := [some (.obj h), some X, some (.lst ((cs.map Cl.n).map .str)), x3, x4, none]) ?_
  show b_need_names [some (.obj h), some X, none, none, none, none] S = _
  unfold b_need_names
  rw [seq_nx (expr_ok (call_ok (cons_ok (var_ok rfl) nil_ok) (needh_ok hh)))]
  rw [seq_skip (S' := S) (not_ok (b := true) (isLT hX (var_ok rfl)))]
  rw [seq_set (lc_ok (S1 := S) (seq_okT (ds := cs.map dC) (told_ok (var_ok rfl) hh)) lc)]
  simp only [List.set_cons_succ, List.set_cons_zero]
  have hq : l.length < LIM := lim_le (by omega)
  refine for_ok (S1 := S) (xs := enD 0 (l.map .str)) ?_ e
  rcases hX with rfl | rfl <;> simp [iEn, aCons, aNil, eVar, itemsD, hq]
theorem needc_ok (hh : HAt S h cs) (hO : HouseOk cs) {c : Cl} (hc : c ∈ cs) : f_need_class [.obj h, .str c.n] S = .ok .non S := by
  have h8 := hO.len
  have hn : c.n ∈ names cs := List.mem_cons_of_mem _ (List.mem_map.mpr ⟨c, hc, rfl⟩)
  have ht : c.n ≠ top := by
    obtain ⟨i, hi⟩ := List.mem_iff_getElem?.mp hc
    intro q
    have := (hO.cl i c hi).new
    rw [q] at this
    exact this List.mem_cons_self
  refine fn_nx (ρ' := [some (.obj h), some (.str c.n)]) ?_
  show b_need_class [some (.obj h), some (.str c.n)] S = _
  unfold b_need_class
  rw [seq_nx (expr_ok (call_ok (cons_ok (var_ok rfl) nil_ok) (needh_ok hh)))]
  rw [seq_nx (expr_ok (call_ok (cons_ok (var_ok rfl) (cons_ok (var_ok rfl) nil_ok)) (needn_ok hh (by omega) hn)))]
  exact if_f (S' := S) (e2_ok (x := .str c.n) (y := .str top) (S1 := S) (var_ok rfl) c_ok (by rw [deref_str, deref_str, eqF_str, decide_eq_false ht]))
theorem sz_nil : Sz [] (([], []) : Bg) := Nat.le_refl _
theorem sz_next {N : List Str} {us : Str → List Str} (hu : UsOk N us) {s : Bg} {o : Str} (ho : o ∈ N) (hi : Iv N us s) (hz : Sz [] s) : Pre N 9 [] s ∧ Iv N us (beg us 9 o [] s) ∧ Sz [] (beg us 9 o [] s) := by
  have h7 := hu.len
  have pr : Pre N 9 [] s := ⟨.nil, by simp, by simp; omega, by simp⟩
  obtain ⟨p, _⟩ := beg_post hu 9 o [] s ho pr hi
  refine ⟨pr, p.iv, ?_⟩
  have a := p.len
  unfold Sz at hz ⊢
  simp at hz ⊢
  omega
theorem many_ok (hh : HAt S h cs) (hO : HouseOk cs) (hu : UsOk (cs.map Cl.n) (uses cs)) {X : Option D} : ∀ (l : List Str) (s : Bg) (x4 : Option D), (∀ n ∈ l, n ∈ cs.map Cl.n) → Iv (cs.map Cl.n) (uses cs) s → Sz [] s →
    ∃ x4', forD (gtName 4) (sExpr (eCall (f_begun 9) (aCons (eVar 0) (aCons (eVar 4) (aCons (eLst aNil) (aCons (eVar 2) (aCons (eVar 3) aNil))))))) (l.map .str) [some (.obj h), X, some (.obj S.length), some (.obj (S.length + 1)), x4] (ap S s) = .nx [some (.obj h), X, some (.obj S.length), some (.obj (S.length + 1)), x4'] (ap S (begs (uses cs) l s))
  | [], s, x4, _, _, _ => ⟨x4, rfl⟩
  | o :: l, s, x4, hl, hi, hz => by
    have ho := hl o List.mem_cons_self
    obtain ⟨pr, i1, z1⟩ := sz_next hu ho hi hz
    have b := begun_ok hh hO hu 9 o [] s ho pr hi hz
    obtain ⟨x4', e⟩ := many_ok hh hO hu l (beg (uses cs) 9 o [] s) (some (.str o)) (fun n hn => hl n (List.mem_cons_of_mem _ hn)) i1 z1
    refine ⟨x4', (forD_nx (ρ1 := [some (.obj h), X, some (.obj S.length), some (.obj (S.length + 1)), some (.str o)]) (ρ2 := [some (.obj h), X, some (.obj S.length), some (.obj (S.length + 1)), some (.str o)]) rfl (expr_ok (call_ok (cons_ok (var_ok rfl) (cons_ok (var_ok rfl) (cons_ok (d := .lst []) (lst_ok nil_ok (by simp)) (cons_ok (var_ok rfl) (cons_ok (var_ok rfl) nil_ok))))) b))).trans e⟩
theorem two_objs {ρ : DEnv} : aCons (eObj (eLst aNil)) (aCons (eObj (eLst aNil)) aNil) ρ S = .ok [.obj S.length, .obj (S.length + 1)] (ap S ([], [])) := by
  have a : ∀ T : Sto, eObj (eLst aNil) ρ T = .ok (.obj T.length) (T ++ [.lst []]) := fun T => by
    have : eLst aNil ρ T = .ok (.lst []) T := lst_ok nil_ok (by simp)
    simp only [eObj, this]
  refine (cons_ok (a S) (cons_ok (a _) nil_ok)).trans ?_
  unfold ap
  simp
theorem allbegun_ok (hh : HAt S h cs) (hO : HouseOk cs) (hu : UsOk (cs.map Cl.n) (uses cs)) {l : List Str} {X : D} (hX : X = .lst (l.map .str) ∨ X = .tup (l.map .str)) (hl : ∀ n ∈ l, n ∈ cs.map Cl.n) : f_all_begun [.obj h, X] S = .ok (.tup [.obj S.length, .obj (S.length + 1)]) (ap S (begs (uses cs) l ([], []))) := by
  obtain ⟨x4', e⟩ := many_ok (X := some X) hh hO hu l ([], []) none hl (iv_nil _ _) sz_nil
  refine fn_rt ?_
  show b_all_begun [some (.obj h), some X, none, none, none] S = _
  unfold b_all_begun
  rw [seq_nx (par_ok two_objs)]
  simp only [putD', List.set_cons_succ, List.set_cons_zero]
  rw [seq_nx (for_ok (S1 := ap S ([], [])) (seqX hX (var_ok rfl)) e)]
  exact ret_ok (tup_ok (cons_ok (var_ok rfl) (cons_ok (var_ok rfl) nil_ok)) (by simp))
theorem metearly_ok (hh : HAt S h cs) (hO : HouseOk cs) (hu : UsOk (cs.map Cl.n) (uses cs)) {l : List Str} {X : D} (hX : X = .lst (l.map .str) ∨ X = .tup (l.map .str)) (hl : ∀ n ∈ l, n ∈ cs.map Cl.n) (ll : l.length ≤ 100) : f_met_early [.obj h, X] S = .ok (.obj (S.length + 1)) (ap S (begs (uses cs) l ([], []))) := by
  refine fn_rt ?_
  show b_met_early [some (.obj h), some X] S = _
  unfold b_met_early
  rw [seq_nx (expr_ok (call_ok (cons_ok (var_ok rfl) (cons_ok (var_ok rfl) nil_ok)) (neednames_ok hh hO hX hl ll)))]
  exact ret_ok (e2_ok (x := .tup [.obj S.length, .obj (S.length + 1)]) (y := .int 1) (call_ok (cons_ok (var_ok rfl) (cons_ok (var_ok rfl) nil_ok)) (allbegun_ok hh hO hu hX hl)) c_ok (by simp [deref_tup, deref_int, ixF, ixS, atI_1]))
end
/-! ### alike, through lists of the store -/
end K86

set_option maxHeartbeats 4000000
namespace K86
open DL PySem PySem.Spec PyProof.Rows L2 H Hr
def insB : SF := (sSet 13 (eIf (eAnd (eIsN (eVar 13)) (eAnd (e2 inF (eVar 14) (eVar 2)) (e2 eqF (e2 ixF (e2 ixF (eVar 2) (eVar 14)) (eC (.int 0))) (eC (.str ("begin" : Str)))))) (e2 ixF (e2 ixF (eVar 2) (eVar 14)) (eC (.int 1))) (eVar 13)))
def atB : SF := (sSeq (sSet 12 (eCall f__law_pick (aCons (eVar 0) (aCons (e2 addF (eVar 4) (eLst (aCons (eC (.str ("top" : Str))) aNil))) aNil))))
  (sSeq (sPar [8, 13] (aCons (eCall f__law_pick (aCons (eVar 0) (aCons (eLst (aCons (eC (.str ("new" : Str))) (aCons (eC (.str ("new" : Str))) (aCons (eC (.str ("cast" : Str))) (aCons (eC (.str ("is" : Str))) (aCons (eC (.str ("call" : Str))) aNil)))))) aNil))) (aCons (eC .non) aNil)))
  (sSeq (sFor (iSeq (eIf (e2 neF (eVar 12) (eC (.str ("top" : Str)))) (e2 ixF (eVar 5) (eVar 12)) (eLst aNil))) (gtName 14) insB)
  (sSeq (sSet 15 (eIf (e2 eqF (eVar 8) (eC (.str ("call" : Str)))) (eTup (aCons (eC (.str ("call" : Str))) (aCons (eVar 12) (aCons (eC (.str ("begin" : Str))) aNil)))) (eTup (aCons (eVar 8) (aCons (eVar 12) aNil)))))
  (sSeq (sSet 15 (eIf (eAnd (e2 eqF (eVar 8) (eC (.str ("call" : Str)))) (eIsN (eVar 13))) (eTup (aCons (eC (.str ("new" : Str))) (aCons (eVar 12) aNil))) (eVar 15)))
  (sSeq (sSet 16 (eIf (e2 eqF (e2 ixF (eVar 15) (eC (.int 0))) (eC (.str ("new" : Str)))) (eTup aNil) (eTup (aCons (eTup (aCons (eC (.str ("none" : Str))) aNil)) aNil))))
  (sSet 10 (e2 addF (e2 addF (e2 addF (eVar 10) (eVar 16)) (e2 repTF (eTup (aCons (eTup (aCons (eC (.str ("push" : Str))) (aCons (eC (.int 1)) aNil))) aNil)) (eIf (e2 eqF (e2 ixF (eVar 15) (eC (.int 0))) (eC (.str ("call" : Str)))) (eN (f1 lenF) (aCons (eVar 13) aNil)) (eC (.int 0))))) (eTup (aCons (eVar 15) (aCons (eTup (aCons (eC (.str ("drop" : Str))) aNil)) aNil)))))))))))
def clB : SF := (sSeq (sSet 10 (eTup aNil))
  (sSeq (sFor (iRange1 (aCons (eCall f__law_taken (aCons (eVar 0) (aCons (eC (.int 4)) aNil))) aNil)) (gtName 11) atB)
  (sSeq (sSet 10 (e2 addF (eVar 10) (eTup (aCons (eTup (aCons (eC (.str ("push" : Str))) (aCons (eC (.int 1)) aNil))) (aCons (eTup (aCons (eC (.str ("give" : Str))) aNil)) aNil)))))
  (sSeq (sSet 17 (eIf (e2 eqF (eCall f__law_taken (aCons (eVar 0) (aCons (eC (.int 4)) aNil))) (eC (.int 0))) (eTup (aCons (eTup (aCons (eC (.int 0)) (aCons (eC (.int 1)) (aCons (eCall f__law_pick (aCons (eVar 0) (aCons (e2 addF (eVar 4) (eLst (aCons (eC (.str ("top" : Str))) aNil))) aNil))) (aCons (eC (.int 0)) aNil))))) aNil)) (eTup aNil)))
  (sSeq (sSet 18 (eIf (e2 inF (eVar 6) (eVar 2)) (eTup (aCons (e2 addF (e2 ixF (eVar 2) (eVar 6)) (eTup (aCons (eC (.str ("num" : Str))) (aCons (eVar 10) (aCons (eVar 17) aNil))))) aNil)) (eTup aNil)))
  (sApp 3 (eTup (aCons (eVar 6) (aCons (eVar 7) (aCons (eTup aNil) (aCons (eVar 18) aNil)))))))))))
def hdB : SF := (sSeq (sPut 5 (eVar 6) (e2 addF (eLst (aCons (eVar 6) aNil)) (eIf (e2 neF (eVar 7) (eC (.str ("top" : Str)))) (e2 ixF (eVar 5) (eVar 7)) (eLst aNil))))
  (sSeq (sSet 8 (eCall f__law_pick (aCons (eVar 0) (aCons (eLst (aCons (eC (.str ("begin" : Str))) (aCons (eC (.str ("begin" : Str))) (aCons (eC (.str ("begin" : Str))) (aCons (eC (.str ("ma" : Str))) aNil))))) aNil))))
  (sIf (e2 (iLt fun i j => decide (j < i)) (eCall f__law_taken (aCons (eVar 0) (aCons (eC (.int 4)) aNil))) (eC (.int 0))) (sSeq (sSet 9 (eLc [14] (iSeq (eSl slF (e2 ixF (eVar 5) (eVar 6)) (e1 ptF (eC (.int 1))) (eC .non))) (gtName 14) (eAnd (e2 inF (eVar 14) (eVar 2)) (e2 eqF (e2 ixF (e2 ixF (eVar 2) (eVar 14)) (eC (.int 0))) (eVar 8))) (e2 ixF (e2 ixF (eVar 2) (eVar 14)) (eC (.int 1)))))
  (sPut 2 (eVar 6) (eTup (aCons (eVar 8) (aCons (e2 ixF (e2 addF (eVar 9) (eLst (aCons (eIf (e2 eqF (eCall f__law_taken (aCons (eVar 0) (aCons (eC (.int 6)) aNil))) (eC (.int 0))) (eTup (aCons (eC (.str ("num" : Str))) aNil)) (eTup aNil)) aNil))) (eC (.int 0))) aNil))))) sNext)))
/-! ### dicts by texts -/
section
variable {α : Type} (key : α → Str) (val : α → D)
def dk (L : List α) : D := .dct (L.map fun a => (D.str (key a), val a))
def fnd (L : List α) (s : Str) : Option α := L.find? fun a => decide (key a = s)
theorem getK_txt (L : List α) (s : Str) : getK (L.map fun a => (D.str (key a), val a)) (.inr s) = (fnd key L s).map val := by
  unfold getK fnd
  rw [List.find?_map]
  have : ((fun kv : D × D => decide (kOf kv.1 = some (Sum.inr s))) ∘ fun a => (D.str (key a), val a)) = fun a => decide (key a = s) := by
    funext a
    show decide (kOf (D.str (key a)) = some (Sum.inr s)) = _
    refine decide_eq_decide.mpr ⟨fun q => ?_, fun q => by rw [q]; rfl⟩
    have : (some (Sum.inr (key a)) : Option L2.Key) = some (Sum.inr s) := q
    injection this with this
    injection this with this
  rw [this, Option.map_map]
  rfl
theorem ix_txt {L : List α} {s : Str} {a : α} (h : fnd key L s = some a) : ixF (dk key val L) (.str s) = some (val a) := by
  show ixD (dk key val L) (.str s) = _
  unfold ixD dk
  show ((some (getK (L.map fun a => (D.str (key a), val a)) (.inr s))).bind id) = _
  rw [getK_txt, h]
  rfl
theorem in_txt (L : List α) (s : Str) : inF (.str s) (dk key val L) = some (.bl (fnd key L s).isSome) := by
  show some (D.bl (getK (L.map fun a => (D.str (key a), val a)) (.inr s)).isSome) = _
  rw [getK_txt, Option.isSome_map]
theorem put_txt {L : List α} {a : α} (h : ∀ b ∈ L, key b ≠ key a) (hl : L.length < LIM) : setF (dk key val L) (.str (key a)) (val a) = some (dk key val (L ++ [a])) := by
  have nk : ¬ ((L.map fun a => (D.str (key a), val a)).any fun kv => decide (kOf kv.1 = some (Sum.inr (key a)))) = true := by
    rw [List.any_map, List.any_eq_true]
    rintro ⟨b, hb, q⟩
    have q' : kOf (D.str (key b)) = some (.inr (key a)) := of_decide_eq_true q
    have : (some (Sum.inr (key b)) : Option L2.Key) = some (Sum.inr (key a)) := q'
    injection this with this
    injection this with this
    exact h b hb this
  show (if (L.map fun a => (D.str (key a), val a)).length < LIM then some (D.dct (putKD (L.map fun a => (D.str (key a), val a)) (fun x => decide (kOf x = some (Sum.inr (key a)))) (.str (key a)) (val a))) else none) = _
  rw [if_pos (by rw [List.length_map]; exact hl)]
  unfold putKD dk
  rw [if_neg nk, List.map_append]
  rfl
theorem fnd_mem {L : List α} {s : Str} {a : α} (h : fnd key L s = some a) : a ∈ L ∧ key a = s := ⟨List.mem_of_find?_eq_some h, by have := List.find?_some h; simpa using this⟩
theorem fnd_of {L : List α} {a : α} (nd : (L.map key).Nodup) (h : a ∈ L) : fnd key L (key a) = some a := by
  unfold fnd
  induction L with
  | nil => cases h
  | cons b L ih =>
    rw [List.map_cons, List.nodup_cons] at nd
    rcases List.mem_cons.mp h with rfl | h
    · rw [List.find?_cons_of_pos (by simp)]
    · rw [List.find?_cons_of_neg (by
        simp only [decide_eq_true_eq]
        exact fun q => nd.1 (q ▸ List.mem_map_of_mem h))]
      exact ih nd.2 h
end
theorem sput_ok {i : Nat} {fk fv : EF} {ρ : DEnv} {S S1 S2 : Sto} {d d' k v : D} (h1 : fv ρ S = .ok v S1) (h2 : ρ[i]? = some (some d)) (h3 : fk ρ S1 = .ok k S2) (h4 : setF d (deref S2 k) v = some d') : sPut i fk fv ρ S = .nx (ρ.set i (some d')) S2 := by
  simp only [sPut, sBind, h1, h2, h3, h4]
/-! ### rows of names -/
def ab (l : List (Str × Str)) (s : Str) : List Str := (rowOf (l.map toCl) s).map Cl.n
theorem row_chain {cs : List Cl} (h : Tr cs) : ∀ (s : Str) (pre post : List Cl) (c : Cl), rowOf cs s = pre ++ c :: post → rowOf cs c.n = c :: post := by
  induction h with
  | nil => intro s pre post c e; simp [H.rowOf] at e
  | app cs c0 h hn hup ih =>
    intro s pre post c e
    have old : ∀ (s : Str) (pre post : List Cl) (c : Cl), rowOf cs s = pre ++ c :: post → rowOf (cs ++ [c0]) c.n = c :: post := by
      intro s pre post c e
      have hc : c ∈ cs := rowOf_mem (n := s) (by rw [e]; simp)
      rw [rowOf_app, if_neg (fun q : c0.n = c.n => hn (q ▸ List.mem_cons_of_mem _ (List.mem_map_of_mem hc)))]
      exact ih s pre post c e
    rw [rowOf_app] at e
    by_cases q : c0.n = s
    · rw [if_pos q] at e
      cases pre with
      | nil =>
        simp at e
        obtain ⟨rfl, rfl⟩ := e
        rw [rowOf_app, if_pos rfl]
      | cons a pre =>
        rw [List.cons_append] at e
        injection e with e1 e2
        exact old _ pre post c e2
    · rw [if_neg q] at e
      exact old s pre post c e
theorem rowOf_no {cs : List Cl} (s : Str) : (∀ c ∈ cs, c.n ≠ s) → rowOf cs s = [] := by
  have key : ∀ (m : Nat) (cs : List Cl), cs.length = m → (∀ c ∈ cs, c.n ≠ s) → rowOf cs s = [] := by
    intro m
    induction m with
    | zero =>
      intro cs hl _
      have : cs = [] := List.length_eq_zero_iff.mp hl
      subst this
      rfl
    | succ m ih =>
      intro cs hl h
      rcases List.eq_nil_or_concat cs with rfl | ⟨cs', c, rfl⟩
      · simp at hl
      · rw [List.concat_eq_append] at hl h ⊢
        rw [rowOf_app, if_neg (h c (by simp))]
        exact ih cs' (by simpa using hl) fun c hc => h c (List.mem_append_left _ hc)
  exact key cs.length cs rfl
structure Tl (l : List (Str × Str)) : Prop where
  t : TreeOk l
  p : 0 < l.length
  l7 : l.length ≤ 7
section
variable {l : List (Str × Str)}
theorem Tl.ho (h : Tl l) : HouseOk (l.map toCl) := tree_house h.t h.p (by have := h.l7; omega)
theorem Tl.nd (h : Tl l) : (l.map (·.1)).Nodup := by
  have := (List.nodup_cons.mp h.ho.tr.nodup).2
  rw [List.map_map] at this
  exact this
theorem Tl.in8 (h : Tl l) {p : Str × Str} (hp : p ∈ l) : p.1 ∈ names8 := by
  have : p.1 ∈ l.map (·.1) := List.mem_map_of_mem hp
  rw [h.t.nm] at this
  exact List.mem_of_mem_take this
theorem Tl.ntop (h : Tl l) {p : Str × Str} (hp : p ∈ l) : p.1 ≠ top := (barred_ok _ (h.in8 hp)).2
theorem ab_cons (h : Tl l) {p : Str × Str} (hp : p ∈ l) : ab l p.1 = p.1 :: ab l p.2 := by
  unfold ab
  have := row_cons h.ho.tr (toCl p) (List.mem_map_of_mem hp)
  have e : rowOf (l.map toCl) p.1 = toCl p :: rowOf (l.map toCl) p.2 := this
  rw [e]
  rfl
theorem ab_top (h : Tl l) : ab l top = [] := by
  unfold ab
  rw [rowOf_no top fun c hc => by
    obtain ⟨p, hp, rfl⟩ := List.mem_map.mp hc
    exact h.ntop hp]
  rfl
theorem ab_len (s : Str) : (ab l s).length ≤ l.length := by
  unfold ab
  have := rowOf_len (l.map toCl) s
  simpa using this
theorem ab_chain (h : Tl l) {s x : Str} {pre post : List Str} (e : ab l s = pre ++ x :: post) : ab l x = x :: post := by
  unfold ab at e ⊢
  obtain ⟨a, b, e1, e2, e3⟩ := List.map_eq_append_iff.mp e
  obtain ⟨c, d, e4, e5, e6⟩ := List.map_eq_cons_iff.mp e3
  subst e4
  have := row_chain h.ho.tr s a d c e1
  rw [← e5, this, List.map_cons, e6]
end
/-! ### heads of methods -/
structure Hx where
  n : Str
  w : Str
  i : List Str
def dHx (e : Hx) : D := .tup [.str e.w, .tup (e.i.map .str)]
structure HOk (l : List (Str × Str)) (i : Nat) (L : List Hx) : Prop where
  key : ∀ e ∈ L, e.n ∈ (l.take i).map (·.1)
  nd : (L.map Hx.n).Nodup
  w : ∀ e ∈ L, e.w = bgn ∨ e.w = "ma"
  ins : ∀ e ∈ L, e.i = [] ∨ e.i = [num]
  con : ∀ e ∈ L, ∀ e' ∈ L, e'.n ∈ ab l e.n → e.w = e'.w → e.i = e'.i
  len : L.length ≤ i
def hasW (L : List Hx) (w one : Str) : Bool := match fnd Hx.n L one with
  | some e => decide (e.w = w)
  | none => false
def insO (L : List Hx) (one : Str) : List Str := match fnd Hx.n L one with
  | some e => e.i
  | none => []
section
variable {l : List (Str × Str)} {i : Nat} {L : List Hx} {S : Sto} {ρ : DEnv}
/-- is a name among the heads, with a word -/
theorem hasw_ok {fo fd fw : EF} {one w : Str} (h1 : fo ρ S = .ok (.str one) S) (h2 : fd ρ S = .ok (dk Hx.n dHx L) S) (h3 : fw ρ S = .ok (.str w) S) : eAnd (e2 inF fo fd) (e2 eqF (e2 ixF (e2 ixF fd fo) (eC (.int 0))) fw) ρ S = .ok (.bl (hasW L w one)) S := by
  have a : e2 inF fo fd ρ S = .ok (.bl (fnd Hx.n L one).isSome) S := e2_ok (x := .str one) (y := dk Hx.n dHx L) (S1 := S) h1 h2 (in_txt Hx.n dHx L one)
  unfold hasW
  cases hf : fnd Hx.n L one with
  | none => rw [hf] at a; exact and_ff a
  | some e =>
    rw [hf] at a
    have b : e2 ixF fd fo ρ S = .ok (dHx e) S := e2_ok (x := dk Hx.n dHx L) (y := .str one) (S1 := S) h2 h1 (ix_txt Hx.n dHx hf)
    have c : e2 ixF (e2 ixF fd fo) (eC (.int 0)) ρ S = .ok (.str e.w) S := e2_ok (x := dHx e) (S1 := S) b c_ok (by simp [dHx, deref_tup, deref_int, ixF, ixS, atI_0])
    exact and_tt a (e2_ok (x := .str e.w) (y := .str w) (S1 := S) c h3 (by rw [deref_str, deref_str, eqF_str]))
theorem inso_ok {fo fd : EF} {one w : Str} (h1 : fo ρ S = .ok (.str one) S) (h2 : fd ρ S = .ok (dk Hx.n dHx L) S) (h : hasW L w one = true) : e2 ixF (e2 ixF fd fo) (eC (.int 1)) ρ S = .ok (.tup ((insO L one).map .str)) S := by
  unfold hasW at h
  unfold insO
  cases hf : fnd Hx.n L one with
  | none => rw [hf] at h; cases h
  | some e =>
    have b : e2 ixF fd fo ρ S = .ok (dHx e) S := e2_ok (x := dk Hx.n dHx L) (y := .str one) (S1 := S) h2 h1 (ix_txt Hx.n dHx hf)
    exact e2_ok (x := dHx e) (S1 := S) b c_ok (by simp [dHx, deref_tup, deref_int, ixF, ixS, atI_1])
theorem hok_add (hT : Tl l) (h : HOk l i L) {p : Str × Str} (hp : l[i]? = some p) {w : Str} {ins : List Str} (hw : w = bgn ∨ w = "ma") (hi : ins = [] ∨ ins = [num]) (hs : ∀ s r, (ab l p.2).filter (hasW L w) = s :: r → ins = insO L s) : HOk l (i + 1) (L ++ [⟨p.1, w, ins⟩]) := by
  have hpl := List.mem_of_getElem? hp
  have il : i < l.length := (List.getElem?_eq_some_iff.mp hp).1
  have tk : (l.take (i + 1)).map (·.1) = (l.take i).map (·.1) ++ [p.1] := by
    rw [List.take_add_one, hp, List.map_append]
    rfl
  have nin : p.1 ∉ (l.take i).map (·.1) := by
    have nd := hT.nd
    have : ((l.take (i + 1)).map (·.1)).Nodup := (nd.sublist ((List.take_sublist _ _).map _))
    rw [tk, List.nodup_append] at this
    exact fun q => this.2.2 _ q _ (by simp) rfl
  have low : ∀ e ∈ L, p.1 ∉ ab l e.n := by
    intro e he q
    -- the uppers of an earlier class are earlier
    obtain ⟨q1, hq1, eq1⟩ := List.mem_map.mp (h.key e he)
    obtain ⟨j, hj⟩ := List.mem_iff_getElem?.mp hq1
    have hji : j < i := by
      have := (List.getElem?_eq_some_iff.mp hj).1
      simp at this; omega
    rw [List.getElem?_take, if_pos hji] at hj
    have key : ∀ (j : Nat) (q1 : Str × Str), l[j]? = some q1 → j < i → p.1 ∉ ab l q1.1 := by
      intro j
      induction j using Nat.strongRecOn with
      | _ j ih =>
        intro q1 hj hji
        have hm := List.mem_of_getElem? hj
        rw [ab_cons hT hm]
        intro hmem
        rcases List.mem_cons.mp hmem with e1 | hmem
        · exact nin (e1 ▸ List.mem_map.mpr ⟨q1, List.mem_of_getElem? (i := j) (by rw [List.getElem?_take, if_pos hji]; exact hj), rfl⟩)
        · have hu := hT.t.up j q1 hj
          rcases List.mem_cons.mp hu with e1 | hu
          · rw [e1, ab_top hT] at hmem; cases hmem
          · obtain ⟨k, hk⟩ := List.mem_iff_getElem?.mp hu
            have hkj : k < j := by
              have := (List.getElem?_eq_some_iff.mp hk).1
              simp at this; omega
            rw [List.getElem?_take, if_pos hkj] at hk
            have hjl : j < l.length := (List.getElem?_eq_some_iff.mp hj).1
            obtain ⟨q2, hq2⟩ : ∃ q2, l[k]? = some q2 := ⟨_, List.getElem?_eq_getElem (by omega)⟩
            have e2 : q2.1 = q1.2 := by
              have a : (l.map (·.1))[k]? = some q2.1 := by rw [List.getElem?_map, hq2]; rfl
              rw [hT.t.nm, List.getElem?_take] at a
              split at a
              · rw [hk] at a; exact (Option.some.inj a).symm
              · cases a
            rw [← e2] at hmem
            exact ih k hkj q2 hq2 (by omega) hmem
    rw [← eq1] at q
    exact key j q1 hj hji q
  refine ⟨fun e he => ?_, ?_, fun e he => ?_, fun e he => ?_, fun e he e' he' ha hww => ?_, by have := h.len; simp; omega⟩
  · rw [tk]
    rcases List.mem_append.mp he with he | he
    · exact List.mem_append_left _ (h.key e he)
    · rw [List.mem_singleton] at he; subst he; simp
  · rw [List.map_append, List.nodup_append]
    refine ⟨h.nd, by simp, fun a ha b hb => ?_⟩
    simp at hb
    subst hb
    obtain ⟨e, he, rfl⟩ := List.mem_map.mp ha
    exact fun q => nin (q ▸ h.key e he)
  · rcases List.mem_append.mp he with he | he
    · exact h.w e he
    · rw [List.mem_singleton] at he; subst he; exact hw
  · rcases List.mem_append.mp he with he | he
    · exact h.ins e he
    · rw [List.mem_singleton] at he; subst he; exact hi
  · rcases List.mem_append.mp he with he | he
    · rcases List.mem_append.mp he' with he' | he'
      · exact h.con e he e' he' ha hww
      · rw [List.mem_singleton] at he'; subst he'
        exact absurd ha (low e he)
    · rw [List.mem_singleton] at he
      subst he
      rcases List.mem_append.mp he' with he' | he'
      · -- the nearest one tells
        have ha : e'.n ∈ ab l p.1 := ha
        rw [ab_cons hT hpl] at ha
        have ha2 : e'.n ∈ ab l p.2 := by
          rcases List.mem_cons.mp ha with q | q
          · exact absurd (q ▸ h.key e' he') nin
          · exact q
        have f' : fnd Hx.n L e'.n = some e' := fnd_of Hx.n h.nd he'
        have hw' : hasW L w e'.n = true := by
          unfold hasW; rw [f']; exact decide_eq_true hww.symm
        cases hq : (ab l p.2).filter (hasW L w) with
        | nil =>
          have : e'.n ∈ (ab l p.2).filter (hasW L w) := List.mem_filter.mpr ⟨ha2, hw'⟩
          rw [hq] at this; cases this
        | cons s r =>
          have es := hs s r hq
          show ins = e'.i
          rw [es]
          have hsm : s ∈ (ab l p.2).filter (hasW L w) := by rw [hq]; exact List.mem_cons_self
          obtain ⟨hs1, hs2⟩ := List.mem_filter.mp hsm
          have hs2' := hs2
          unfold hasW at hs2'
          cases hf : fnd Hx.n L s with
          | none => rw [hf] at hs2'; cases hs2'
          | some e1 =>
            rw [hf] at hs2'
            have w1 : e1.w = w := of_decide_eq_true hs2'
            obtain ⟨m1, n1⟩ := fnd_mem Hx.n hf
            have i1 : insO L s = e1.i := by unfold insO; rw [hf]
            rw [i1]
            obtain ⟨pre, post, hpp, hpre, _⟩ : ∃ pre post, ab l p.2 = pre ++ s :: post ∧ (∀ x ∈ pre, ¬ hasW L w x = true) ∧ True := by
              obtain ⟨as, bs, e1, e2, _, _⟩ := List.filter_eq_cons_iff.mp hq
              exact ⟨as, bs, e1, e2, trivial⟩
            have hin : e'.n ∈ s :: post := by
              rw [hpp] at ha2
              rcases List.mem_append.mp ha2 with z | z
              · exact absurd hw' (hpre _ z)
              · exact z
            have ch := ab_chain hT hpp
            rw [← ch] at hin
            rw [← n1] at hin
            exact h.con e1 m1 e' he' hin (w1.trans hww)
      · rw [List.mem_singleton] at he'; subst he'; rfl
end
/-! ### the first loop -/
abbrev envB (l : List (Str × Str)) (x2 x3 x5 x6 x7 x8 x9 x10 x11 x12 x13 x14 x15 x16 x17 x18 : Option D) : DEnv := [some (.obj 0), some (.lst (l.map dF)), x2, x3, some (.lst ((l.map (·.1)).map .str)), x5, x6, x7, x8, x9, x10, x11, x12, x13, x14, x15, x16, x17, x18]
def dA (l : List (Str × Str)) (p : Str × Str) : D := .lst ((ab l p.1).map .str)
theorem cut_tl (ds : List D) : DL.cutD ds (some 1) none = ds.drop 1 := by
  unfold DL.cutD
  have e : HT.sIx ds.length 0 (some (1 : Int)) = min 1 ds.length := by
    have : (1 : Int) = ((1 : Nat) : Int) := rfl
    rw [this, HT.sIx_nat]
  have e0 : HT.sIx ds.length ds.length none = ds.length := rfl
  rw [e, e0]
  cases ds with
  | nil => rfl
  | cons a ds =>
    rw [List.length_cons, Nat.min_eq_left (by omega)]
    show List.take (ds.length + 1 - 1) ds = ds
    rw [Nat.add_sub_cancel, List.take_length]
theorem head_ok {cells : List Int} {T S : Sto} {l : List (Str × Str)} (hT : Tl l) (hr : Row cells T S) {i : Nat} {p : Str × Str} (hp : l[i]? = some p) {L : List Hx} (h : HOk l i L) {x3 x8 x9 x10 x11 x12 x13 x14 x15 x16 x17 x18 : Option D} :
    ∃ L' x8' x9' S', hdB (envB l (some (dk Hx.n dHx L)) x3 (some (dk (·.1) (dA l) (l.take i))) (some (.str p.1)) (some (.str p.2)) x8 x9 x10 x11 x12 x13 x14 x15 x16 x17 x18) S = .nx (envB l (some (dk Hx.n dHx L')) x3 (some (dk (·.1) (dA l) (l.take (i + 1)))) (some (.str p.1)) (some (.str p.2)) x8' x9' x10 x11 x12 x13 x14 x15 x16 x17 x18) S' ∧ HOk l (i + 1) L' ∧ Row cells T S' := by
  have hpl := List.mem_of_getElem? hp
  have il : i < l.length := (List.getElem?_eq_some_iff.mp hp).1
  have l7 := hT.l7
  have tk : l.take (i + 1) = l.take i ++ [p] := by rw [List.take_add_one, hp]; rfl
  have tk' : (l.take (i + 1)).map (·.1) = (l.take i).map (·.1) ++ [p.1] := by rw [tk, List.map_append]; rfl
  have ndi : ((l.take i).map (·.1)).Nodup := hT.nd.sublist ((List.take_sublist _ _).map _)
  have ndi1 : ((l.take (i + 1)).map (·.1)).Nodup := hT.nd.sublist ((List.take_sublist _ _).map _)
  have nin : p.1 ∉ (l.take i).map (·.1) := by
    rw [tk', List.nodup_append] at ndi1
    exact fun q => ndi1.2.2 _ q _ (by simp) rfl
  have abl : (ab l p.2).length ≤ 7 := Nat.le_trans (ab_len p.2) l7
  -- what stands above
  have up : ∀ (ρ : DEnv) (S : Sto), ρ[7]? = some (some (.str p.2)) → ρ[5]? = some (some (dk (·.1) (dA l) (l.take i))) → eIf (e2 neF (eVar 7) (eC (.str ("top" : Str)))) (e2 ixF (eVar 5) (eVar 7)) (eLst aNil) ρ S = .ok (.lst ((ab l p.2).map .str)) S := fun ρ S h7 h5 => by
    have ne : e2 neF (eVar 7) (eC (.str ("top" : Str))) ρ S = .ok (.bl (!decide (p.2 = top))) S := e2_ok (x := .str p.2) (y := .str top) (S1 := S) (var_ok h7) c_ok (by rw [deref_str, deref_str, neF_str])
    by_cases q : p.2 = top
    · rw [decide_eq_true q] at ne
      rw [q, ab_top hT]
      exact if_ff ne (lst_ok nil_ok (by simp))
    · rw [decide_eq_false q] at ne
      refine if_tt ne (e2_ok (x := dk (·.1) (dA l) (l.take i)) (y := .str p.2) (S1 := S) (var_ok h5) (var_ok h7) ?_)
      have hu := hT.t.up i p hp
      rcases List.mem_cons.mp hu with e1 | hu
      · exact absurd e1 q
      · have : p.2 ∈ (l.take i).map (·.1) := by
          rw [List.map_take, hT.t.nm, List.take_take, Nat.min_eq_left (by omega)]
          exact hu
        obtain ⟨q2, hq2, e2⟩ := List.mem_map.mp this
        have f := fnd_of (α := Str × Str) (·.1) ndi hq2
        have f' : fnd (α := Str × Str) (·.1) (l.take i) p.2 = some q2 := by rw [← e2]; exact f
        have := ix_txt (α := Str × Str) (·.1) (dA l) f'
        rw [show dA l q2 = .lst ((ab l p.2).map .str) by unfold dA; rw [e2]] at this
        exact this
  have abe := ab_cons hT hpl
  have q1 : 1 + (ab l p.2).length < LIM := lim_le (by omega)
  have put1 : sPut 5 (eVar 6) (e2 addF (eLst (aCons (eVar 6) aNil)) (eIf (e2 neF (eVar 7) (eC (.str ("top" : Str)))) (e2 ixF (eVar 5) (eVar 7)) (eLst aNil))) (envB l (some (dk Hx.n dHx L)) x3 (some (dk (·.1) (dA l) (l.take i))) (some (.str p.1)) (some (.str p.2)) x8 x9 x10 x11 x12 x13 x14 x15 x16 x17 x18) S = .nx (envB l (some (dk Hx.n dHx L)) x3 (some (dk (·.1) (dA l) (l.take (i + 1)))) (some (.str p.1)) (some (.str p.2)) x8 x9 x10 x11 x12 x13 x14 x15 x16 x17 x18) S := by
    refine (sput_ok (v := dA l p) (k := .str p.1) (d := dk (·.1) (dA l) (l.take i)) (d' := dk (·.1) (dA l) (l.take (i + 1))) (e2_ok (x := .lst [.str p.1]) (y := .lst ((ab l p.2).map .str)) (S1 := S) (lst_ok (cons_ok (var_ok rfl) nil_ok) (by simp)) (up _ _ rfl rfl) ?_) rfl (var_ok rfl) ?_).trans rfl
    · rw [deref_lst, deref_lst]
      simp only [addF, List.length_singleton, List.length_map, if_pos q1, dA, abe]
      rfl
    · rw [deref_str, tk]
      exact put_txt (α := Str × Str) (·.1) (dA l) (L := l.take i) (a := p) (fun b hb q => nin (q ▸ List.mem_map_of_mem hb)) (lim_le (by simp; omega))
  obtain ⟨w, S1, e1', hw, b1⟩ := pick_str ["begin", "begin", "begin", "ma"] hr (by simp) (by simp)
  have hw' : w = bgn ∨ w = "ma" := by
    simp only [List.mem_cons, List.not_mem_nil, or_false] at hw
    rcases hw with h | h | h | h
    · exact .inl h
    · exact .inl h
    · exact .inl h
    · exact .inr h
  obtain ⟨r, S2, e2', a2, b2⟩ := taken_row (m := 4) b1 (by decide) (by decide)
  have gt : e2 (iLt fun i j => decide (j < i)) (eCall f__law_taken (aCons (eVar 0) (aCons (eC (.int 4)) aNil))) (eC (.int 0)) (envB l (some (dk Hx.n dHx L)) x3 (some (dk (·.1) (dA l) (l.take (i + 1)))) (some (.str p.1)) (some (.str p.2)) (some (.str w)) x9 x10 x11 x12 x13 x14 x15 x16 x17 x18) S1 = .ok (.bl (decide ((0 : Int) < r))) S2 := e2_ok (x := .int r) (y := .int 0) (call_ok (cons_ok (var_ok rfl) (cons_ok c_ok nil_ok)) e2') c_ok rfl
  unfold hdB
  rw [seq_nx put1]
  rw [seq_set (d := .str w) (S' := S1) (call_ok (cons_ok (var_ok rfl) (cons_ok (d := .lst ((["begin", "begin", "begin", "ma"] : List Str).map .str)) (lst_ok (cons_ok c_ok (cons_ok c_ok (cons_ok c_ok (cons_ok c_ok nil_ok)))) (by simp)) nil_ok)) e1')]
  simp only [List.set_cons_succ, List.set_cons_zero]
  by_cases q3 : (0 : Int) < r
  · rw [decide_eq_true q3] at gt
    obtain ⟨r6, S3, e3', a3, b3⟩ := taken_row (m := 6) b2 (by decide) (by decide)
    have fp : fnd (α := Str × Str) (·.1) (l.take (i + 1)) p.1 = some p := fnd_of (α := Str × Str) (·.1) ndi1 (by rw [tk]; simp)
    have tl : ∀ (ρ : DEnv) (S : Sto), ρ[5]? = some (some (dk (·.1) (dA l) (l.take (i + 1)))) → ρ[6]? = some (some (.str p.1)) → eSl slF (e2 ixF (eVar 5) (eVar 6)) (e1 ptF (eC (.int 1))) (eC .non) ρ S = .ok (.lst ((ab l p.2).map .str)) S := fun ρ S h5 h6 => by
      have ix : e2 ixF (eVar 5) (eVar 6) ρ S = .ok (.lst ((ab l p.1).map .str)) S := e2_ok (x := dk (·.1) (dA l) (l.take (i + 1))) (y := .str p.1) (S1 := S) (var_ok h5) (var_ok h6) (ix_txt (α := Str × Str) (·.1) (dA l) fp)
      have c1 : DL.cutD ((ab l p.1).map D.str) (some (1 : Int)) none = (ab l p.2).map .str := by rw [cut_tl, abe]; rfl
      simp only [eSl, ix, Res.bind_ok, e1, eC, deref_int, ptF, Res.ofOpt_some, optI, deref_lst, slF, c1]
    have lc := lcD_filt (g := gtName 14) (fc := (eAnd (e2 inF (eVar 14) (eVar 2)) (e2 eqF (e2 ixF (e2 ixF (eVar 2) (eVar 14)) (eC (.int 0))) (eVar 8)))) (fe := (e2 ixF (e2 ixF (eVar 2) (eVar 14)) (eC (.int 1)))) (ρ := envB l (some (dk Hx.n dHx L)) x3 (some (dk (·.1) (dA l) (l.take (i + 1)))) (some (.str p.1)) (some (.str p.2)) (some (.str w)) x9 x10 x11 x12 x13 none x15 x16 x17 x18) (S := S2) D.str (fun one => .tup ((insO L one).map .str)) (hasW L w) (l := ab l p.2) (acc := []) (fun one _ => ⟨_, rfl, hasw_ok (var_ok rfl) (var_ok rfl) (var_ok rfl), fun hh => inso_ok (w := w) (var_ok rfl) (var_ok rfl) hh⟩)
    rw [List.nil_append] at lc
    have eq6 : e2 eqF (eCall f__law_taken (aCons (eVar 0) (aCons (eC (.int 6)) aNil))) (eC (.int 0)) (envB l (some (dk Hx.n dHx L)) x3 (some (dk (·.1) (dA l) (l.take (i + 1)))) (some (.str p.1)) (some (.str p.2)) (some (.str w)) (some (.lst (((ab l p.2).filter (hasW L w)).map fun one => .tup ((insO L one).map .str)))) x10 x11 x12 x13 x14 x15 x16 x17 x18) S2 = .ok (.bl (decide ((r6 : Int) = 0))) S3 := e2_ok (x := .int r6) (y := .int 0) (call_ok (cons_ok (var_ok rfl) (cons_ok c_ok nil_ok)) e3') c_ok (by rw [deref_int, deref_int, eqF_int])
    obtain ⟨nw, hnw, enw⟩ : ∃ nw : List Str, (nw = [] ∨ nw = [num]) ∧ eIf (e2 eqF (eCall f__law_taken (aCons (eVar 0) (aCons (eC (.int 6)) aNil))) (eC (.int 0))) (eTup (aCons (eC (.str ("num" : Str))) aNil)) (eTup aNil) (envB l (some (dk Hx.n dHx L)) x3 (some (dk (·.1) (dA l) (l.take (i + 1)))) (some (.str p.1)) (some (.str p.2)) (some (.str w)) (some (.lst (((ab l p.2).filter (hasW L w)).map fun one => .tup ((insO L one).map .str)))) x10 x11 x12 x13 x14 x15 x16 x17 x18) S2 = .ok (.tup (nw.map .str)) S3 := by
      by_cases q : (r6 : Int) = 0
      · rw [decide_eq_true q] at eq6
        exact ⟨[num], .inr rfl, if_tt eq6 (tup_ok (cons_ok c_ok nil_ok) (by simp))⟩
      · rw [decide_eq_false q] at eq6
        exact ⟨[], .inl rfl, if_ff eq6 (tup_ok nil_ok (by simp))⟩
    obtain ⟨ins, hins, hsg, eix⟩ : ∃ ins : List Str, (ins = [] ∨ ins = [num]) ∧ (∀ s r, (ab l p.2).filter (hasW L w) = s :: r → ins = insO L s) ∧ L2.atI ((((ab l p.2).filter (hasW L w)).map fun one => D.tup ((insO L one).map .str)) ++ [.tup (nw.map .str)]) 0 = some (.tup (ins.map .str)) := by
      cases hq : (ab l p.2).filter (hasW L w) with
      | nil => exact ⟨nw, hnw, ⟨(fun s r e => nomatch e), by simp [atI_0]⟩⟩
      | cons s r =>
        refine ⟨insO L s, ?_, fun s' r' e => by cases e; rfl, by simp [atI_0]⟩
        unfold insO
        cases hf : fnd Hx.n L s with
        | none => exact .inl rfl
        | some e => exact h.ins e (fnd_mem Hx.n hf).1
    have fl : ((ab l p.2).filter (hasW L w)).length ≤ 7 := Nat.le_trans (List.length_filter_le _ _) abl
    have q4 : ((ab l p.2).filter (hasW L w)).length + 1 < LIM := lim_le (by omega)
    refine ⟨L ++ [⟨p.1, w, ins⟩], some (.str w), some (.lst (((ab l p.2).filter (hasW L w)).map fun one => .tup ((insO L one).map .str))), S3, ?_, hok_add hT h hp hw' hins hsg, b3⟩
    rw [if_t gt]
    rw [seq_set (lc_ok (S1 := S2) (seq_ok (ds := (ab l p.2).map .str) (tl _ _ rfl rfl)) lc)]
    simp only [List.set_cons_succ, List.set_cons_zero]
    have ad : e2 addF (eVar 9) (eLst (aCons (eIf (e2 eqF (eCall f__law_taken (aCons (eVar 0) (aCons (eC (.int 6)) aNil))) (eC (.int 0))) (eTup (aCons (eC (.str ("num" : Str))) aNil)) (eTup aNil)) aNil)) (envB l (some (dk Hx.n dHx L)) x3 (some (dk (·.1) (dA l) (l.take (i + 1)))) (some (.str p.1)) (some (.str p.2)) (some (.str w)) (some (.lst (((ab l p.2).filter (hasW L w)).map fun one => .tup ((insO L one).map .str)))) x10 x11 x12 x13 x14 x15 x16 x17 x18) S2 = .ok (.lst ((((ab l p.2).filter (hasW L w)).map fun one => D.tup ((insO L one).map .str)) ++ [.tup (nw.map .str)])) S3 := e2_ok (x := .lst (((ab l p.2).filter (hasW L w)).map fun one => .tup ((insO L one).map .str))) (y := .lst [.tup (nw.map .str)]) (var_ok rfl) (lst_ok (cons_ok enw nil_ok) (by simp)) (by
      rw [deref_lst, deref_lst]
      simp only [addF, List.length_map, List.length_singleton, if_pos q4])
    refine (sput_ok (v := dHx ⟨p.1, w, ins⟩) (k := .str p.1) (d := dk Hx.n dHx L) (d' := dk Hx.n dHx (L ++ [⟨p.1, w, ins⟩])) (tup_ok (cons_ok (var_ok rfl) (cons_ok (e2_ok (y := .int 0) (S1 := S3) ad c_ok (by rw [deref_lst, deref_int]; exact eix)) nil_ok)) (by simp)) rfl (var_ok rfl) ?_).trans rfl
    rw [deref_str]
    exact put_txt Hx.n dHx (a := ⟨p.1, w, ins⟩) (fun b hb q => nin (by have := h.key b hb; rwa [show b.n = p.1 from q] at this)) (lim_le (by have := h.len; omega))
  · rw [decide_eq_false q3] at gt
    refine ⟨L, some (.str w), x9, S2, if_f gt, ⟨fun e he => ?_, h.nd, h.w, h.ins, h.con, by have := h.len; omega⟩, b2⟩
    rw [tk']
    exact List.mem_append_left _ (h.key e he)
end K86

set_option maxHeartbeats 4000000
namespace K86
open DL PySem PySem.Spec PyProof.Rows L2 H Hr
inductive StL (l : List (Str × Str)) (L : List Hx) : List D → Prop
  | non : StL l L [.str ("none" : Str)]
  | push : StL l L [.str ("push" : Str), .int 1]
  | give : StL l L [.str ("give" : Str)]
  | drop : StL l L [.str ("drop" : Str)]
  | cls (w : Str) (h : w ∈ (["new", "cast", "is"] : List Str)) (o : Str) (ho : o ∈ top :: l.map (·.1)) : StL l L [.str w, .str o]
  | call (o : Str) (ho : o ∈ top :: l.map (·.1)) (x : Str) (hx : x ∈ ab l o) (hw : hasW L bgn x = true) : StL l L [.str ("call" : Str), .str o, .str bgn]
def Steps (l : List (Str × Str)) (L : List Hx) (code : List D) : Prop := ∀ d ∈ code, ∃ xs, d = .tup xs ∧ StL l L xs
theorem Steps.app {l : List (Str × Str)} {L : List Hx} {a b : List D} (ha : Steps l L a) (hb : Steps l L b) : Steps l L (a ++ b) := fun d hd => (List.mem_append.mp hd).elim (ha d) (hb d)
def dV : Option (List Str) → D
  | none => .non
  | some i => .tup (i.map .str)
def Vok (l : List (Str × Str)) (L : List Hx) (o : Str) (v : Option (List Str)) : Prop := ∀ i, v = some i → i.length ≤ 1 ∧ ∃ x ∈ ab l o, hasW L bgn x = true
abbrev envC (l : List (Str × Str)) (L : List Hx) (cs : List Cl) (p : Str × Str) (x8 x9 x10 x11 x12 x13 x14 x15 x16 x17 x18 : Option D) : DEnv := [some (.obj 0), some (.lst (l.map dF)), some (dk Hx.n dHx L), some (.lst (cs.map dC)), some (.lst ((l.map (·.1)).map .str)), some (dk (·.1) (dA l) l), some (.str p.1), some (.str p.2), x8, x9, x10, x11, x12, x13, x14, x15, x16, x17, x18]
theorem isN_dV {f : EF} {ρ : DEnv} {S : Sto} {v : Option (List Str)} (h : f ρ S = .ok (dV v) S) : eIsN f ρ S = .ok (.bl v.isNone) S := by
  simp only [eIsN, h, Res.bind_ok]
  cases v <;> rfl
section
variable {cells : List Int} {T S : Sto} {l : List (Str × Str)} {L : List Hx} {cs : List Cl} {p : Str × Str}
theorem insO_len (h : HOk l l.length L) (s : Str) : (insO L s).length ≤ 1 := by
  unfold insO
  cases hf : fnd Hx.n L s with
  | none => simp
  | some e =>
    rcases h.ins e (fnd_mem Hx.n hf).1 with q | q
    · show e.i.length ≤ 1
      rw [q]; simp
    · show e.i.length ≤ 1
      rw [q]; simp
theorem ins_ok (h : HOk l l.length L) {o : Str} {x8 x9 x10 x11 x12 x14 x15 x16 x17 x18 : Option D} : ∃ v x14', Vok l L o v ∧ forD (gtName 14) insB ((ab l o).map .str) (envC l L cs p x8 x9 x10 x11 x12 (some .non) x14 x15 x16 x17 x18) S = .nx (envC l L cs p x8 x9 x10 x11 x12 (some (dV v)) x14' x15 x16 x17 x18) S := by
  obtain ⟨ρ', e, v, x14', hv, rfl⟩ := forD_keep (g := gtName 14) (body := insB) (S := S) (fun ρ => ∃ v x14', Vok l L o v ∧ ρ = envC l L cs p x8 x9 x10 x11 x12 (some (dV v)) x14' x15 x16 x17 x18) (xs := (ab l o).map .str) (ρ := envC l L cs p x8 x9 x10 x11 x12 (some (dV none)) x14 x15 x16 x17 x18) ⟨none, x14, (fun i q => by cases q), rfl⟩ (by
    rintro d ρ hd ⟨v, x14', hv, rfl⟩
    obtain ⟨one, ho, rfl⟩ := List.mem_map.mp hd
    have a := isN_dV (f := eVar 13) (ρ := envC l L cs p x8 x9 x10 x11 x12 (some (dV v)) (some (.str one)) x15 x16 x17 x18) (S := S) (var_ok rfl)
    have b := hasw_ok (fo := eVar 14) (fd := eVar 2) (fw := eC (.str ("begin" : Str))) (ρ := envC l L cs p x8 x9 x10 x11 x12 (some (dV v)) (some (.str one)) x15 x16 x17 x18) (S := S) (one := one) (w := bgn) (var_ok rfl) (var_ok rfl) c_ok
    cases v with
    | some i => exact ⟨_, _, rfl, set_ok (d := dV (some i)) (if_ff (and_ff a) (var_ok rfl)), some i, _, hv, rfl⟩
    | none =>
      by_cases q : hasW L bgn one = true
      · rw [q] at b
        exact ⟨_, _, rfl, set_ok (d := dV (some (insO L one))) (if_tt (and_tt a b) (inso_ok (w := bgn) (var_ok rfl) (var_ok rfl) q)), some (insO L one), _, (fun i e => by cases e; exact ⟨insO_len h one, one, ho, q⟩), rfl⟩
      · have q' : hasW L bgn one = false := by simpa using q
        rw [q'] at b
        exact ⟨_, _, rfl, set_ok (d := dV none) (if_ff (and_tt a b) (var_ok rfl)), none, _, (fun i e => by cases e), rfl⟩)
  exact ⟨v, x14', hv, e⟩
theorem up_ok (hT : Tl l) {i : Nat} {o : Str} (ho : o ∈ top :: l.map (·.1)) {ρ : DEnv} (h12 : ρ[i]? = some (some (.str o))) (h5 : ρ[5]? = some (some (dk (·.1) (dA l) l))) : eIf (e2 neF (eVar i) (eC (.str ("top" : Str)))) (e2 ixF (eVar 5) (eVar i)) (eLst aNil) ρ S = .ok (.lst ((ab l o).map .str)) S := by
  have ne : e2 neF (eVar i) (eC (.str ("top" : Str))) ρ S = .ok (.bl (!decide (o = top))) S := e2_ok (x := .str o) (y := .str top) (S1 := S) (var_ok h12) c_ok (by rw [deref_str, deref_str, neF_str])
  by_cases q : o = top
  · rw [decide_eq_true q] at ne
    rw [q, ab_top hT]
    exact if_ff ne (lst_ok nil_ok (by simp))
  · rw [decide_eq_false q] at ne
    refine if_tt ne (e2_ok (x := dk (·.1) (dA l) l) (y := .str o) (S1 := S) (var_ok h5) (var_ok h12) ?_)
    rcases List.mem_cons.mp ho with e1 | ho
    · exact absurd e1 q
    · obtain ⟨q2, hq2, e2⟩ := List.mem_map.mp ho
      have f := fnd_of (α := Str × Str) (·.1) hT.nd hq2
      have f' : fnd (α := Str × Str) (·.1) l o = some q2 := by rw [← e2]; exact f
      have := ix_txt (α := Str × Str) (·.1) (dA l) f'
      rw [show dA l q2 = .lst ((ab l o).map .str) by unfold dA; rw [e2]] at this
      exact this
theorem names_pick (hT : Tl l) (hr : Row cells T S) {f : EF} {ρ : DEnv} (h0 : ρ[0]? = some (some (.obj 0))) (h4 : ρ[4]? = some (some (.lst ((l.map (·.1)).map .str)))) : ∃ o S', eCall f__law_pick (aCons (eVar 0) (aCons (e2 addF (eVar 4) (eLst (aCons (eC (.str ("top" : Str))) aNil))) aNil)) ρ S = .ok (.str o) S' ∧ o ∈ top :: l.map (·.1) ∧ Row cells T S' := by
  have l7 := hT.l7
  obtain ⟨o, S1, e1', ho, b1⟩ := pick_str (l.map (·.1) ++ [top]) hr (by simp) (by simp; omega)
  have q : (l.map (·.1)).length + 1 < LIM := lim_le (by simp; omega)
  refine ⟨o, S1, call_ok (cons_ok (var_ok h0) (cons_ok (d := .lst ((l.map (·.1) ++ [top]).map .str)) (e2_ok (x := .lst ((l.map (·.1)).map .str)) (y := .lst [.str top]) (S1 := S) (var_ok h4) (lst_ok (cons_ok c_ok nil_ok) (by simp)) ?_) nil_ok)) e1', ?_, b1⟩
  · rw [deref_lst, deref_lst]
    have q2 : ((l.map (·.1)).map D.str).length + [D.str top].length < LIM := by rw [List.length_map]; exact q
    simp only [addF, if_pos q2, List.map_append]
    rfl
  · rcases List.mem_append.mp ho with h | h
    · exact List.mem_cons_of_mem _ h
    · rw [List.mem_singleton.mp h]; exact List.mem_cons_self
theorem at_ok (hT : Tl l) (h : HOk l l.length L) (hr : Row cells T S) {code : List D} (hs : Steps l L code) {n : Nat} (hl : code.length ≤ 4 * n) (hn : n ≤ 3) {x8 x9 x11 x12 x13 x14 x15 x16 x17 x18 : Option D} :
    ∃ code' x8' x12' x13' x14' x15' x16' S', atB (envC l L cs p x8 x9 (some (.tup code)) x11 x12 x13 x14 x15 x16 x17 x18) S = .nx (envC l L cs p x8' x9 (some (.tup code')) x11 x12' x13' x14' x15' x16' x17 x18) S' ∧ Steps l L code' ∧ code'.length ≤ 4 * (n + 1) ∧ Row cells T S' := by
  obtain ⟨o, S1, e1', ho, b1⟩ := names_pick (f := eVar 0) hT hr (ρ := envC l L cs p x8 x9 (some (.tup code)) x11 x12 x13 x14 x15 x16 x17 x18) rfl rfl
  obtain ⟨w, S2, e2', hw, b2⟩ := pick_str ["new", "new", "cast", "is", "call"] b1 (by simp) (by simp)
  have ew : eCall f__law_pick (aCons (eVar 0) (aCons (eLst (aCons (eC (.str ("new" : Str))) (aCons (eC (.str ("new" : Str))) (aCons (eC (.str ("cast" : Str))) (aCons (eC (.str ("is" : Str))) (aCons (eC (.str ("call" : Str))) aNil)))))) aNil)) (envC l L cs p x8 x9 (some (.tup code)) x11 (some (.str o)) x13 x14 x15 x16 x17 x18) S1 = .ok (.str w) S2 := call_ok (cons_ok (var_ok rfl) (cons_ok (d := .lst ((["new", "new", "cast", "is", "call"] : List Str).map .str)) (lst_ok (cons_ok c_ok (cons_ok c_ok (cons_ok c_ok (cons_ok c_ok (cons_ok c_ok nil_ok))))) (by simp)) nil_ok)) e2'
  obtain ⟨v, x14', hv, e3⟩ := ins_ok (S := S2) (cs := cs) (p := p) (o := o) h (x8 := some (.str w)) (x9 := x9) (x10 := some (.tup code)) (x11 := x11) (x12 := some (.str o)) (x14 := x14) (x15 := x15) (x16 := x16) (x17 := x17) (x18 := x18)
  unfold atB
  rw [seq_set e1']
  simp only [List.set_cons_succ, List.set_cons_zero]
  rw [seq_nx (par_ok (ds := [.str w, .non]) (S1 := S2) (cons_ok ew (cons_ok (d := .non) c_ok nil_ok)))]
  simp only [putD', List.set_cons_succ, List.set_cons_zero]
  rw [seq_nx (for_ok (S1 := S2) (seq_ok (ds := (ab l o).map .str) (up_ok hT (i := 12) ho rfl rfl)) e3)]
  -- the step
  have eqc : ∀ {ρ : DEnv} {f : EF} {x y : Str}, f ρ S2 = .ok (.str x) S2 → e2 eqF f (eC (.str y)) ρ S2 = .ok (.bl (decide (x = y))) S2 := fun {ρ f x y} hf => e2_ok (x := .str x) (y := .str y) (S1 := S2) hf c_ok (by rw [deref_str, deref_str, eqF_str])
  obtain ⟨st0, est0, hst0⟩ : ∃ st0 : List D, eIf (e2 eqF (eVar 8) (eC (.str ("call" : Str)))) (eTup (aCons (eC (.str ("call" : Str))) (aCons (eVar 12) (aCons (eC (.str ("begin" : Str))) aNil)))) (eTup (aCons (eVar 8) (aCons (eVar 12) aNil))) (envC l L cs p (some (.str w)) x9 (some (.tup code)) x11 (some (.str o)) (some (dV v)) x14' x15 x16 x17 x18) S2 = .ok (.tup st0) S2 ∧ st0 = if w = "call" then [.str ("call" : Str), .str o, .str bgn] else [.str w, .str o] := by
    have c1 := eqc (ρ := envC l L cs p (some (.str w)) x9 (some (.tup code)) x11 (some (.str o)) (some (dV v)) x14' x15 x16 x17 x18) (f := eVar 8) (x := w) (y := "call") (var_ok rfl)
    by_cases q : w = "call"
    · rw [decide_eq_true q] at c1
      exact ⟨_, if_tt c1 (tup_ok (cons_ok c_ok (cons_ok (var_ok rfl) (cons_ok c_ok nil_ok))) (by simp)), by rw [if_pos q]; rfl⟩
    · rw [decide_eq_false q] at c1
      exact ⟨_, if_ff c1 (tup_ok (cons_ok (var_ok rfl) (cons_ok (var_ok rfl) nil_ok)) (by simp)), by rw [if_neg q]⟩
  rw [seq_set est0]
  simp only [List.set_cons_succ, List.set_cons_zero]
  obtain ⟨w', r', k, est, hst, hk⟩ : ∃ (w' : Str) (r' : List D) (k : Nat), eIf (eAnd (e2 eqF (eVar 8) (eC (.str ("call" : Str)))) (eIsN (eVar 13))) (eTup (aCons (eC (.str ("new" : Str))) (aCons (eVar 12) aNil))) (eVar 15) (envC l L cs p (some (.str w)) x9 (some (.tup code)) x11 (some (.str o)) (some (dV v)) x14' (some (.tup st0)) x16 x17 x18) S2 = .ok (.tup (.str w' :: r')) S2 ∧ StL l L (.str w' :: r') ∧ k ≤ 1 ∧ (w' = "call" → ∃ i, v = some i ∧ i.length = k) ∧ (w' ≠ "call" → k = 0) := by
    have c1 := eqc (ρ := envC l L cs p (some (.str w)) x9 (some (.tup code)) x11 (some (.str o)) (some (dV v)) x14' (some (.tup st0)) x16 x17 x18) (f := eVar 8) (x := w) (y := "call") (var_ok rfl)
    have c2 := isN_dV (f := eVar 13) (ρ := envC l L cs p (some (.str w)) x9 (some (.tup code)) x11 (some (.str o)) (some (dV v)) x14' (some (.tup st0)) x16 x17 x18) (S := S2) (var_ok rfl)
    by_cases q : w = "call"
    · rw [decide_eq_true q] at c1
      rw [if_pos q] at hst0
      subst hst0
      cases v with
      | none => exact ⟨"new", [.str o], 0, if_tt (and_tt c1 c2) (tup_ok (cons_ok c_ok (cons_ok (var_ok rfl) nil_ok)) (by simp)), .cls "new" (by simp) o ho, by omega, fun e => absurd e (by decide), fun _ => rfl⟩
      | some i =>
        obtain ⟨i1, x, hx, hxw⟩ := hv i rfl
        exact ⟨"call", [.str o, .str bgn], i.length, if_ff (and_tt c1 c2) (var_ok rfl), .call o ho x hx hxw, i1, fun _ => ⟨i, rfl, rfl⟩, fun e => absurd rfl e⟩
    · rw [decide_eq_false q] at c1
      rw [if_neg q] at hst0
      subst hst0
      have hw3 : w ∈ (["new", "cast", "is"] : List Str) := by
        simp only [List.mem_cons, List.not_mem_nil, or_false] at hw ⊢
        rcases hw with h | h | h | h | h
        · exact .inl h
        · exact .inl h
        · exact .inr (.inl h)
        · exact .inr (.inr h)
        · exact absurd h q
      exact ⟨w, [.str o], 0, if_ff (and_ff c1) (var_ok rfl), .cls w hw3 o ho, by omega, fun e => absurd e q, fun _ => rfl⟩
  obtain ⟨k1, kc, kn⟩ := hk
  rw [seq_set est]
  simp only [List.set_cons_succ, List.set_cons_zero]
  have hd : ∀ ρ : DEnv, ρ[15]? = some (some (.tup (.str w' :: r'))) → e2 ixF (eVar 15) (eC (.int 0)) ρ S2 = .ok (.str w') S2 := fun ρ h15 => e2_ok (x := .tup (.str w' :: r')) (S1 := S2) (var_ok h15) c_ok (by rw [deref_tup, deref_int]; exact atI_0 _ _)
  obtain ⟨ah, eah, hah, lah⟩ : ∃ ah : List D, eIf (e2 eqF (e2 ixF (eVar 15) (eC (.int 0))) (eC (.str ("new" : Str)))) (eTup aNil) (eTup (aCons (eTup (aCons (eC (.str ("none" : Str))) aNil)) aNil)) (envC l L cs p (some (.str w)) x9 (some (.tup code)) x11 (some (.str o)) (some (dV v)) x14' (some (.tup (.str w' :: r'))) x16 x17 x18) S2 = .ok (.tup ah) S2 ∧ Steps l L ah ∧ ah.length ≤ 1 := by
    have c1 := eqc (y := "new") (hd (envC l L cs p (some (.str w)) x9 (some (.tup code)) x11 (some (.str o)) (some (dV v)) x14' (some (.tup (.str w' :: r'))) x16 x17 x18) rfl)
    by_cases q : w' = "new"
    · rw [decide_eq_true q] at c1
      exact ⟨[], if_tt c1 (tup_ok nil_ok (by simp)), (fun d hd => nomatch hd), by simp⟩
    · rw [decide_eq_false q] at c1
      exact ⟨[.tup [.str ("none" : Str)]], if_ff c1 (tup_ok (S1 := S2) (cons_ok (tup_ok (S1 := S2) (cons_ok c_ok nil_ok) (by simp)) nil_ok) (by simp)), (fun d hd => by rw [List.mem_singleton.mp hd]; exact ⟨_, rfl, .non⟩), by simp⟩
  rw [seq_set eah]
  simp only [List.set_cons_succ, List.set_cons_zero]
  have ek : eIf (e2 eqF (e2 ixF (eVar 15) (eC (.int 0))) (eC (.str ("call" : Str)))) (eN (f1 lenF) (aCons (eVar 13) aNil)) (eC (.int 0)) (envC l L cs p (some (.str w)) x9 (some (.tup code)) x11 (some (.str o)) (some (dV v)) x14' (some (.tup (.str w' :: r'))) (some (.tup ah)) x17 x18) S2 = .ok (.int k) S2 := by
    have c1 := eqc (y := "call") (hd (envC l L cs p (some (.str w)) x9 (some (.tup code)) x11 (some (.str o)) (some (dV v)) x14' (some (.tup (.str w' :: r'))) (some (.tup ah)) x17 x18) rfl)
    by_cases q : w' = "call"
    · rw [decide_eq_true q] at c1
      obtain ⟨i, rfl, hi⟩ := kc q
      have lt := lenT_ok (f := eVar 13) (ρ := envC l L cs p (some (.str w)) x9 (some (.tup code)) x11 (some (.str o)) (some (dV (some i))) x14' (some (.tup (.str w' :: r'))) (some (.tup ah)) x17 x18) (S := S2) (S1 := S2) (ds := i.map .str) (var_ok rfl)
      rw [List.length_map, hi] at lt
      exact if_tt c1 lt
    · rw [decide_eq_false q] at c1
      rw [kn q]
      exact if_ff c1 c_ok
  have rep : e2 repTF (eTup (aCons (eTup (aCons (eC (.str ("push" : Str))) (aCons (eC (.int 1)) aNil))) aNil)) (eIf (e2 eqF (e2 ixF (eVar 15) (eC (.int 0))) (eC (.str ("call" : Str)))) (eN (f1 lenF) (aCons (eVar 13) aNil)) (eC (.int 0))) (envC l L cs p (some (.str w)) x9 (some (.tup code)) x11 (some (.str o)) (some (dV v)) x14' (some (.tup (.str w' :: r'))) (some (.tup ah)) x17 x18) S2 = .ok (.tup (List.replicate k (.tup [.str ("push" : Str), .int 1]))) S2 := by
    refine e2_ok (x := .tup [.tup [.str ("push" : Str), .int 1]]) (y := .int (k : Int)) (S1 := S2) (tup_ok (S1 := S2) (ds := [.tup [.str ("push" : Str), .int 1]]) (cons_ok (tup_ok (S1 := S2) (ds := [.str ("push" : Str), .int 1]) (cons_ok c_ok (cons_ok c_ok nil_ok)) (by simp)) nil_ok) (by simp)) ek ?_
    have c : (0 : Int) ≤ (k : Int) ∧ (k : Int) ≤ 1000 ∧ [D.tup [.str ("push" : Str), .int 1]].length ≤ 1000 ∧ [D.tup [.str ("push" : Str), .int 1]] ≠ [] := ⟨by omega, by omega, by simp, by simp⟩
    show repTF (.tup [D.tup [.str ("push" : Str), .int 1]]) (.int (k : Int)) = _
    unfold repTF
    dsimp only
    rw [if_pos c, Int.toNat_natCast, List.flatten_replicate_singleton]
  have q1 : code.length + ah.length < LIM := lim_le (by omega)
  have q2 : code.length + ah.length + k < LIM := lim_le (by omega)
  have q3 : code.length + ah.length + k + 2 < LIM := lim_le (by omega)
  refine ⟨code ++ ah ++ List.replicate k (.tup [.str ("push" : Str), .int 1]) ++ [.tup (.str w' :: r'), .tup [.str ("drop" : Str)]], some (.str w), some (.str o), some (dV v), x14', some (.tup (.str w' :: r')), some (.tup ah), S2, ?_, ?_, ?_, b2⟩
  · refine (set_ok (S' := S2) (e2_ok (x := .tup (code ++ ah ++ List.replicate k (.tup [.str ("push" : Str), .int 1]))) (y := .tup [.tup (.str w' :: r'), .tup [.str ("drop" : Str)]]) (S1 := S2) (e2_ok (x := .tup (code ++ ah)) (y := .tup (List.replicate k (.tup [.str ("push" : Str), .int 1]))) (S1 := S2) (e2_ok (x := .tup code) (y := .tup ah) (S1 := S2) (var_ok rfl) (var_ok rfl) ?_) rep ?_) (tup_ok (S1 := S2) (cons_ok (var_ok rfl) (cons_ok (tup_ok (S1 := S2) (cons_ok c_ok nil_ok) (by simp)) nil_ok)) (by simp)) ?_)).trans rfl
    · simp only [deref_tup, addF, if_pos q1]
    · simp only [deref_tup, addF, List.length_append, List.length_replicate, if_pos q2]
    · simp only [deref_tup, addF, List.length_append, List.length_replicate, List.length_cons, List.length_nil, Nat.zero_add, Nat.reduceAdd, if_pos q3]
  · refine ((hs.app hah).app fun d hd => ?_).app fun d hd => ?_
    · rw [(List.mem_replicate.mp hd).2]
      exact ⟨_, rfl, .push⟩
    · simp only [List.mem_cons, List.not_mem_nil, or_false] at hd
      rcases hd with rfl | rfl
      · exact ⟨_, rfl, hst⟩
      · exact ⟨_, rfl, .drop⟩
  · simp only [List.length_append, List.length_replicate, List.length_cons, List.length_nil]
    omega
/-! ### a class -/
structure Cz (l : List (Str × Str)) (L : List Hx) (c : Cl) : Prop where
  fs : c.fs = []
  ms : (fnd Hx.n L c.n = none ∧ c.ms = []) ∨ ∃ (e : Hx) (pre rows : List D), fnd Hx.n L c.n = some e ∧ c.ms = [⟨e.w, e.i, num, .tup (pre ++ [.tup [.str ("push" : Str), .int 1], .tup [.str ("give" : Str)]]), .tup rows⟩] ∧ Steps l L pre ∧ pre.length ≤ 12 ∧ (rows = [] ∨ ∃ o ∈ top :: l.map (·.1), rows = [.tup [.int 0, .int 1, .str o, .int 0]])
theorem cl_ok (hT : Tl l) (h : HOk l l.length L) (hr : Row cells T S) (hl : cs.length ≤ 7) {x8 x9 x10 x11 x12 x13 x14 x15 x16 x17 x18 : Option D} :
    ∃ c x8' x10' x11' x12' x13' x14' x15' x16' x17' x18' S', clB (envC l L cs p x8 x9 x10 x11 x12 x13 x14 x15 x16 x17 x18) S = .nx (envC l L (cs ++ [c]) p x8' x9 x10' x11' x12' x13' x14' x15' x16' x17' x18') S' ∧ c.n = p.1 ∧ c.u = p.2 ∧ Cz l L c ∧ Row cells T S' := by
  obtain ⟨r, S1, e1', a1, b1⟩ := taken_row (m := 4) hr (by decide) (by decide)
  obtain ⟨ρ', S2, e2', x8', code, x11', x12', x13', x14', x15', x16', rfl, hs, hcl, b2⟩ := forD_all (g := gtName 11) (body := atB) (xs := dInts 0 r) (ρ := envC l L cs p x8 x9 (some (.tup [])) x11 x12 x13 x14 x15 x16 x17 x18) (S := S1)
    (fun i ρ S => ∃ x8' code x11' x12' x13' x14' x15' x16', ρ = envC l L cs p x8' x9 (some (.tup code)) x11' x12' x13' x14' x15' x16' x17 x18 ∧ Steps l L code ∧ code.length ≤ 4 * i ∧ Row cells T S)
    ⟨x8, [], x11, x12, x13, x14, x15, x16, rfl, (fun d hd => nomatch hd), by simp, b1⟩ (by
      rintro i x ρ S hx ⟨x8', code, x11', x12', x13', x14', x15', x16', rfl, hs, hcl, b⟩
      obtain ⟨hi, rfl⟩ := dInts_get hx
      obtain ⟨code', x8'', x12'', x13'', x14'', x15'', x16'', S', e, hs', hcl', b'⟩ := at_ok (cs := cs) (p := p) hT h b hs (n := i) hcl (by omega) (x8 := x8') (x9 := x9) (x11 := some (.int (0 + (i : Int)))) (x12 := x12') (x13 := x13') (x14 := x14') (x15 := x15') (x16 := x16') (x17 := x17) (x18 := x18)
      exact ⟨_, _, S', rfl, .inl e, _, _, _, _, _, _, _, _, rfl, hs', hcl', b'⟩)
  rw [dInts_len'] at hcl
  have q2 : code.length + 2 < LIM := lim_le (by omega)
  obtain ⟨r3, S3, e3', a3, b3⟩ := taken_row (m := 4) b2 (by decide) (by decide)
  let code2 : List D := code ++ [.tup [.str ("push" : Str), .int 1], .tup [.str ("give" : Str)]]
  have g0 : e2 eqF (eCall f__law_taken (aCons (eVar 0) (aCons (eC (.int 4)) aNil))) (eC (.int 0)) (envC l L cs p x8' x9 (some (.tup code2)) x11' x12' x13' x14' x15' x16' x17 x18) S2 = .ok (.bl (decide ((r3 : Int) = 0))) S3 := e2_ok (x := .int r3) (y := .int 0) (call_ok (cons_ok (var_ok rfl) (cons_ok c_ok nil_ok)) e3') c_ok (by rw [deref_int, deref_int, eqF_int])
  obtain ⟨rows, S4, e4', hrows, b4⟩ : ∃ (rows : List D) (S4 : Sto), eIf (e2 eqF (eCall f__law_taken (aCons (eVar 0) (aCons (eC (.int 4)) aNil))) (eC (.int 0))) (eTup (aCons (eTup (aCons (eC (.int 0)) (aCons (eC (.int 1)) (aCons (eCall f__law_pick (aCons (eVar 0) (aCons (e2 addF (eVar 4) (eLst (aCons (eC (.str ("top" : Str))) aNil))) aNil))) (aCons (eC (.int 0)) aNil))))) aNil)) (eTup aNil) (envC l L cs p x8' x9 (some (.tup code2)) x11' x12' x13' x14' x15' x16' x17 x18) S2 = .ok (.tup rows) S4 ∧ (rows = [] ∨ ∃ o ∈ top :: l.map (·.1), rows = [.tup [.int 0, .int 1, .str o, .int 0]]) ∧ Row cells T S4 := by
    by_cases q : (r3 : Int) = 0
    · rw [decide_eq_true q] at g0
      obtain ⟨o, S4, e4, ho, b4⟩ := names_pick (f := eVar 0) hT b3 (ρ := envC l L cs p x8' x9 (some (.tup code2)) x11' x12' x13' x14' x15' x16' x17 x18) rfl rfl
      exact ⟨_, S4, if_tt g0 (tup_ok (S1 := S4) (cons_ok (tup_ok (S1 := S4) (ds := [.int 0, .int 1, .str o, .int 0]) (cons_ok c_ok (cons_ok c_ok (cons_ok e4 (cons_ok c_ok nil_ok)))) (by simp)) nil_ok) (by simp)), .inr ⟨o, ho, rfl⟩, b4⟩
    · rw [decide_eq_false q] at g0
      exact ⟨[], S3, if_ff g0 (tup_ok nil_ok (by simp)), .inl rfl, b3⟩
  have hin : e2 inF (eVar 6) (eVar 2) (envC l L cs p x8' x9 (some (.tup code2)) x11' x12' x13' x14' x15' x16' (some (.tup rows)) x18) S4 = .ok (.bl (fnd Hx.n L p.1).isSome) S4 := e2_ok (x := .str p.1) (y := dk Hx.n dHx L) (S1 := S4) (var_ok rfl) (var_ok rfl) (in_txt Hx.n dHx L p.1)
  obtain ⟨ms, ems, hms, lms⟩ : ∃ ms : List Me, eIf (e2 inF (eVar 6) (eVar 2)) (eTup (aCons (e2 addF (e2 ixF (eVar 2) (eVar 6)) (eTup (aCons (eC (.str ("num" : Str))) (aCons (eVar 10) (aCons (eVar 17) aNil))))) aNil)) (eTup aNil) (envC l L cs p x8' x9 (some (.tup code2)) x11' x12' x13' x14' x15' x16' (some (.tup rows)) x18) S4 = .ok (.tup (ms.map dM)) S4 ∧ ((fnd Hx.n L p.1 = none ∧ ms = []) ∨ ∃ e : Hx, fnd Hx.n L p.1 = some e ∧ ms = [⟨e.w, e.i, num, .tup code2, .tup rows⟩]) ∧ ms.length ≤ 1 := by
    cases hf : fnd Hx.n L p.1 with
    | none =>
      rw [hf] at hin
      exact ⟨[], if_ff hin (tup_ok nil_ok (by simp)), .inl ⟨rfl, rfl⟩, by simp⟩
    | some e =>
      rw [hf] at hin
      have ix : e2 ixF (eVar 2) (eVar 6) (envC l L cs p x8' x9 (some (.tup code2)) x11' x12' x13' x14' x15' x16' (some (.tup rows)) x18) S4 = .ok (dHx e) S4 := e2_ok (x := dk Hx.n dHx L) (y := .str p.1) (S1 := S4) (var_ok rfl) (var_ok rfl) (ix_txt Hx.n dHx hf)
      have q5 : 2 + 3 < LIM := by decide
      exact ⟨[⟨e.w, e.i, num, .tup code2, .tup rows⟩], if_tt hin (tup_ok (S1 := S4) (cons_ok (e2_ok (x := dHx e) (y := .tup [.str ("num" : Str), .tup code2, .tup rows]) (S1 := S4) ix (tup_ok (S1 := S4) (cons_ok c_ok (cons_ok (var_ok rfl) (cons_ok (var_ok rfl) nil_ok))) (by simp)) (by
        simp only [dHx, deref_tup, addF, List.length_cons, List.length_nil, Nat.zero_add, Nat.reduceAdd, if_pos q5]
        rfl)) nil_ok) (by simp)), .inr ⟨e, rfl, rfl⟩, by simp⟩
  let c : Cl := ⟨p.1, p.2, [], ms⟩
  refine ⟨c, x8', some (.tup code2), x11', x12', x13', x14', x15', x16', some (.tup rows), some (.tup (ms.map dM)), S4, ?_, rfl, rfl, ⟨rfl, ?_⟩, b4⟩
  · unfold clB
    rw [seq_set (d := .tup []) (S' := S) (tup_ok nil_ok (by simp))]
    simp only [List.set_cons_succ, List.set_cons_zero]
    rw [seq_nx (for_ok (S1 := S1) (range_ok (n := r) (cons_ok (call_ok (cons_ok (var_ok rfl) (cons_ok c_ok nil_ok)) e1') nil_ok) (by omega)) e2')]
    rw [seq_set (d := .tup code2) (S' := S2) (e2_ok (x := .tup code) (y := .tup [.tup [.str ("push" : Str), .int 1], .tup [.str ("give" : Str)]]) (S1 := S2) (var_ok rfl) (tup_ok (S1 := S2) (cons_ok (tup_ok (S1 := S2) (ds := [.str ("push" : Str), .int 1]) (cons_ok c_ok (cons_ok c_ok nil_ok)) (by simp)) (cons_ok (tup_ok (S1 := S2) (ds := [.str ("give" : Str)]) (cons_ok c_ok nil_ok) (by simp)) nil_ok)) (by simp)) (by simp only [deref_tup, addF, List.length_cons, List.length_nil, Nat.zero_add, Nat.reduceAdd, if_pos q2]; rfl))]
    simp only [List.set_cons_succ, List.set_cons_zero]
    rw [seq_set e4']
    simp only [List.set_cons_succ, List.set_cons_zero]
    rw [seq_set ems]
    simp only [List.set_cons_succ, List.set_cons_zero]
    refine (app_ok (ds := cs.map dC) (d := dC c) (S1 := S4) rfl (tup_ok (S1 := S4) (ds := [.str p.1, .str p.2, .tup [], .tup (ms.map dM)]) (cons_ok (var_ok rfl) (cons_ok (var_ok rfl) (cons_ok (tup_ok (S1 := S4) nil_ok (by simp)) (cons_ok (var_ok rfl) nil_ok)))) (by simp)) (by simp; omega)).trans ?_
    have : cs.map dC ++ [dC c] = (cs ++ [c]).map dC := by simp
    rw [this]
    rfl
  · rcases hms with ⟨q, rfl⟩ | ⟨e, q, rfl⟩
    · exact .inl ⟨q, rfl⟩
    · exact .inr ⟨e, code, rows, q, rfl, hs, by omega, hrows⟩
end
end K86

set_option maxHeartbeats 4000000
namespace K86
open DL PySem PySem.Spec PyProof.Rows L2 H Hr
def toP (c : Cl) : Str × Str := (c.n, c.u)
theorem ab_eq {cs : List Cl} {l : List (Str × Str)} (h : cs.map toP = l) (s : Str) : ab l s = (rowOf cs s).map Cl.n := by
  subst h
  unfold ab
  have e : rowOf ((cs.map toP).map toCl) s = (rowOf cs s).map (fun c => toCl (toP c)) := by
    rw [List.map_map]
    exact rowG_map Cl.n Cl.u Cl.n Cl.u (fun c => toCl (toP c)) (fun _ => rfl) (fun _ => rfl) cs s
  rw [e, List.map_map]
  rfl
theorem rowOf_ext : ∀ (ds cs : List Cl) (s : Str), (∀ d ∈ ds, d.n ≠ s) → rowOf (cs ++ ds) s = rowOf cs s := by
  have key : ∀ (m : Nat) (ds cs : List Cl) (s : Str), ds.length = m → (∀ d ∈ ds, d.n ≠ s) → rowOf (cs ++ ds) s = rowOf cs s := by
    intro m
    induction m with
    | zero =>
      intro ds cs s hl _
      have : ds = [] := List.length_eq_zero_iff.mp hl
      rw [this, List.append_nil]
    | succ m ih =>
      intro ds cs s hl h
      rcases List.eq_nil_or_concat ds with rfl | ⟨ds', d, rfl⟩
      · simp at hl
      · rw [List.concat_eq_append] at hl h ⊢
        rw [← List.append_assoc, rowOf_app, if_neg (h d (by simp))]
        exact ih ds' cs s (by simpa using hl) fun x hx => h x (List.mem_append_left _ hx)
  exact fun ds cs s => key ds.length ds cs s rfl
theorem bgn_ok : W bgn := ⟨fun S => by kernel_rfl, by decide +kernel⟩
theorem ma_ok : W "ma" := ⟨fun S => by kernel_rfl, by decide +kernel⟩
section
variable {l : List (Str × Str)} {L : List Hx} {cs : List Cl}
theorem step_of (hT : Tl l) (hm : cs.map toP = l) (hz : ∀ c ∈ cs, Cz l L c) {size : Nat} {xs : List D} (h : StL l L xs) : StepOk (names cs) (upF cs) (upM cs) size xs := by
  have nn : names cs = top :: l.map (·.1) := by rw [← hm, List.map_map]; rfl
  have wn : ∀ o ∈ top :: l.map (·.1), W o := fun o ho => by
    rcases List.mem_cons.mp ho with rfl | ho
    · exact top_ok
    · obtain ⟨p, hp, rfl⟩ := List.mem_map.mp ho
      exact names8_ok _ (hT.in8 hp)
  cases h with
  | non => exact .bare _ (by decide)
  | push => exact .push 1 (by decide) (by decide)
  | give => exact .bare _ (by decide)
  | drop => exact .bare _ (by decide)
  | cls w h o ho => exact .cls w h o (wn o ho) (by rw [nn]; exact ho)
  | call o ho x hx hw =>
    refine .call o bgn (wn o ho) bgn_ok ?_
    rw [ab_eq hm] at hx
    obtain ⟨c, hc, rfl⟩ := List.mem_map.mp hx
    have hcc := rowOf_mem hc
    unfold hasW at hw
    have z := (hz c hcc).ms
    unfold upM
    rw [List.map_flatMap, List.mem_flatMap]
    refine ⟨c, hc, ?_⟩
    rcases z with ⟨q, _⟩ | ⟨e, pre, rows, q, em, _⟩
    · rw [q] at hw; cases hw
    · rw [q] at hw
      have : e.w = bgn := of_decide_eq_true hw
      rw [em, List.map_singleton, List.mem_singleton]
      exact this.symm
theorem begs_house (hT : Tl l) (h : HOk l l.length L) (hm : cs.map toP = l) (hz : ∀ c ∈ cs, Cz l L c) : HouseOk cs := by
  have ll : cs.length = l.length := by rw [← hm, List.length_map]
  have p0 := hT.p
  have l7 := hT.l7
  have nn : names cs = top :: l.map (·.1) := by rw [← hm, List.map_map]; rfl
  have wn : ∀ o ∈ top :: l.map (·.1), W o := fun o ho => by
    rcases List.mem_cons.mp ho with rfl | ho
    · exact top_ok
    · obtain ⟨p, hp, rfl⟩ := List.mem_map.mp ho
      exact names8_ok _ (hT.in8 hp)
  refine ⟨by omega, fun q => by rw [q] at ll; simp at ll; omega, fun i c hc => ?_⟩
  have hcm := List.mem_of_getElem? hc
  have z := hz c hcm
  have hp : l[i]? = some (toP c) := by rw [← hm, List.getElem?_map, hc]; rfl
  have hi : i < l.length := (List.getElem?_eq_some_iff.mp hp).1
  have hn : (names8.take l.length)[i]? = some c.n := by rw [← hT.t.nm, List.getElem?_map, hp]; rfl
  have hat : names8[i]? = some c.n := by
    rw [List.getElem?_take, if_pos hi] at hn
    exact hn
  have hm8 := List.mem_of_getElem? hat
  have hup : c.u ∈ top :: names8.take i := hT.t.up i _ hp
  have nt : names (cs.take i) = top :: names8.take i := by
    have : (cs.take i).map Cl.n = names8.take i := by
      have e : cs.map Cl.n = l.map (·.1) := by rw [← hm, List.map_map]; rfl
      rw [List.map_take, e, hT.t.nm, List.take_take, Nat.min_eq_left (by omega)]
    unfold names
    rw [this]
  have sub : ∀ u ∈ rowOf (cs.take i) c.u, u ∈ rowOf cs c.u := fun u hu => by
    have e : rowOf cs c.u = rowOf (cs.take i) c.u := by
      conv => lhs; rw [← List.take_append_drop i cs]
      refine rowOf_ext _ _ _ fun d hd q => ?_
      obtain ⟨j, hj⟩ := List.mem_iff_getElem?.mp hd
      rw [List.getElem?_drop] at hj
      have hpj : l[i + j]? = some (toP d) := by rw [← hm, List.getElem?_map, hj]; rfl
      have hlt : i + j < l.length := (List.getElem?_eq_some_iff.mp hpj).1
      have hnj : (names8.take l.length)[i + j]? = some d.n := by rw [← hT.t.nm, List.getElem?_map, hpj]; rfl
      rw [List.getElem?_take, if_pos hlt, q] at hnj
      rcases List.mem_cons.mp hup with e1 | e1
      · rw [e1] at hnj
        exact (barred_ok _ (List.mem_of_getElem? hnj)).2 rfl
      · obtain ⟨k, hk⟩ := List.mem_iff_getElem?.mp e1
        rw [List.getElem?_take] at hk
        split at hk
        · have := nodup_inj names8_nodup hk hnj
          omega
        · cases hk
    rw [e]; exact hu
  refine ⟨names8_ok _ hm8, (barred_ok _ hm8).1, ?_, nameW8 hup, by rw [nt]; exact hup, ⟨by rw [z.fs]; simp, by rw [z.fs]; simp, by rw [z.fs]; simp, by rw [z.fs]; simp⟩, ?_, fun j m hj => ?_, fun m hmm => ?_⟩
  · rw [nt]
    intro q
    rcases List.mem_cons.mp q with q | q
    · exact (barred_ok _ hm8).2 q
    · obtain ⟨j, hj⟩ := List.mem_iff_getElem?.mp q
      rw [List.getElem?_take] at hj
      split at hj
      · have := nodup_inj names8_nodup hj hat
        omega
      · cases hj
  · rcases z.ms with ⟨_, q⟩ | ⟨e, pre, rows, _, q, _⟩
    · rw [q]; simp
    · rw [q]; simp
  · rcases z.ms with ⟨_, q⟩ | ⟨e, pre, rows, hf, q, _⟩
    · rw [q] at hj; simp at hj
    · rw [q] at hj
      cases j with
      | succ j => simp at hj
      | zero =>
        have em : m = ⟨e.w, e.i, num, .tup (pre ++ [.tup [.str ("push" : Str), .int 1], .tup [.str ("give" : Str)]]), .tup rows⟩ := by simpa using hj.symm
        obtain ⟨he, hen⟩ := fnd_mem Hx.n hf
        subst em
        refine ⟨?_, by simp, ?_, fun k hk => ?_, ⟨num_ok, .inl rfl⟩, fun u hu m' hm' hw => ?_⟩
        · rcases h.w e he with r | r
          · show W e.w; rw [r]; exact bgn_ok
          · show W e.w; rw [r]; exact ma_ok
        · show e.i.length ≤ 3
          rcases h.ins e he with r | r
          · rw [r]; simp
          · rw [r]; simp
        · have hk : k ∈ e.i := hk
          rcases h.ins e he with r | r
          · rw [r] at hk; cases hk
          · rw [r, List.mem_singleton] at hk
            rw [hk]; exact ⟨num_ok, .inl rfl⟩
        · have hu' := sub u hu
          have hucs := rowOf_mem hu'
          rcases (hz u hucs).ms with ⟨_, q'⟩ | ⟨e', pre', rows', hf', q', _⟩
          · rw [q'] at hm'; cases hm'
          · rw [q', List.mem_singleton] at hm'
            subst hm'
            obtain ⟨he', hen'⟩ := fnd_mem Hx.n hf'
            have hw' : e.w = e'.w := hw.symm
            have ha : e'.n ∈ ab l e.n := by
              rw [hen, hen']
              have a := ab_cons hT (List.mem_of_getElem? hp)
              have a' : ab l c.n = c.n :: ab l c.u := a
              rw [a']
              refine List.mem_cons_of_mem _ ?_
              rw [ab_eq hm]
              exact List.mem_map_of_mem hu'
            exact ⟨(h.con e he e' he' ha hw').symm, rfl⟩
  · rcases z.ms with ⟨_, q⟩ | ⟨e, pre, rows, hf, q, hs, hl, hrows⟩
    · rw [q] at hmm; cases hmm
    · rw [q, List.mem_singleton] at hmm
      subst hmm
      have el : (pre ++ [D.tup [.str ("push" : Str), .int 1], .tup [.str ("give" : Str)]]).length = pre.length + 2 := by simp
      have st2 : Steps l L (pre ++ [D.tup [.str ("push" : Str), .int 1], .tup [.str ("give" : Str)]]) := hs.app fun d hd => by
        simp only [List.mem_cons, List.not_mem_nil, or_false] at hd
        rcases hd with rfl | rfl
        · exact ⟨_, rfl, .push⟩
        · exact ⟨_, rfl, .give⟩
      refine ⟨rfl, rfl, ?_, ?_, fun d hd => ?_, fun xs e => ?_, ?_, fun d hd => ?_⟩
      · show (pre ++ _).length ≤ 20
        rw [el]; omega
      · show pre ++ _ ≠ []
        simp
      · obtain ⟨xs, e, hx⟩ := st2 d hd
        exact ⟨xs, e, step_of hT hm hz hx⟩
      · have e' : (pre ++ [D.tup [.str ("push" : Str), .int 1], .tup [.str ("give" : Str)]])[(pre ++ [D.tup [.str ("push" : Str), .int 1], .tup [.str ("give" : Str)]]).length - 1]? = some (.tup xs) := e
        rw [el, List.getElem?_append_right (by omega)] at e'
        have : pre.length + 2 - 1 - pre.length = 1 := by omega
        rw [this] at e'
        cases e'
        exact ⟨_, _, rfl, by decide⟩
      · show rows.length ≤ 4
        rcases hrows with r | ⟨o, _, r⟩
        · rw [r]; simp
        · rw [r]; simp
      · have hd : d ∈ rows := hd
        rcases hrows with r | ⟨o, ho, r⟩
        · rw [r] at hd; cases hd
        · rw [r, List.mem_singleton] at hd
          subst hd
          refine .mk 0 1 o 0 (by omega) ?_ (by omega) ?_ (wn o ho) (by rw [nn]; exact ho) (by omega) ?_
          all_goals
            show _ ≤ _
            have : Me.code ⟨e.w, e.i, num, .tup (pre ++ [D.tup [.str ("push" : Str), .int 1], .tup [.str ("give" : Str)]]), .tup rows⟩ = pre ++ [D.tup [.str ("push" : Str), .int 1], .tup [.str ("give" : Str)]] := rfl
            rw [this, el]
            omega
end
theorem hok_nil (l : List (Str × Str)) : HOk l 0 [] := ⟨by simp, by simp, by simp, by simp, by simp, by simp⟩
theorem begins_ok {cells : List Int} {T S : Sto} (hr : Row cells T S) : ∃ (cs : List Cl) (S' : Sto), f__law_begins [.obj 0] S = .ok (.tup [dCs cs, .lst ((cs.map Cl.n).map .str)]) S' ∧ HouseOk cs ∧ cs.length ≤ 7 ∧ Row cells T S' := by
  obtain ⟨r, S1, e1', a1, b1⟩ := taken_row (m := 7) hr (by decide) (by decide)
  obtain ⟨l, S2, e2', hl, hT0, b2⟩ := tree_row (k := 1 + r) b1 (by omega)
  have hT : Tl l := ⟨hT0, by omega, by omega⟩
  have l7 := hT.l7
  obtain ⟨ρ3, S3, e3, L, y6, y7, y8, y9, rfl, hL, b3⟩ := forD_all (g := gtTup (gtCons (gtName 6) (gtCons (gtName 7) gtNil))) (body := hdB) (xs := l.map dF) (ρ := [some (.obj 0), some (.lst (l.map dF)), some (.dct []), some (.lst []), some (.lst ((l.map (·.1)).map .str)), some (.dct []), none, none, none, none, none, none, none, none, none, none, none, none, none]) (S := S2)
    (fun i ρ S => ∃ L y6 y7 y8 y9, ρ = [some (.obj 0), some (.lst (l.map dF)), some (dk Hx.n dHx L), some (.lst []), some (.lst ((l.map (·.1)).map .str)), some (dk (·.1) (dA l) (l.take i)), y6, y7, y8, y9, none, none, none, none, none, none, none, none, none] ∧ HOk l i L ∧ Row cells T S)
    ⟨[], none, none, none, none, rfl, hok_nil l, b2⟩ (by
      rintro i x ρ S hx ⟨L, y6, y7, y8, y9, rfl, hL, b⟩
      rw [List.getElem?_map] at hx
      cases hp : l[i]? with
      | none => rw [hp] at hx; cases hx
      | some p =>
        rw [hp] at hx
        cases hx
        obtain ⟨L', y8', y9', S', e, hL', b'⟩ := head_ok hT b hp hL (x3 := some (.lst [])) (x8 := y8) (x9 := y9) (x10 := none) (x11 := none) (x12 := none) (x13 := none) (x14 := none) (x15 := none) (x16 := none) (x17 := none) (x18 := none)
        exact ⟨_, _, S', rfl, .inl e, L', _, _, _, _, rfl, hL', b'⟩)
  rw [List.length_map] at hL e3
  rw [List.take_length] at e3
  obtain ⟨ρ4, S4, e4, cs, z6, z7, z8, z10, z11, z12, z13, z14, z15, z16, z17, z18, rfl, hm, hz, b4⟩ := forD_all (g := gtTup (gtCons (gtName 6) (gtCons (gtName 7) gtNil))) (body := clB) (xs := l.map dF) (ρ := [some (.obj 0), some (.lst (l.map dF)), some (dk Hx.n dHx L), some (.lst []), some (.lst ((l.map (·.1)).map .str)), some (dk (·.1) (dA l) l), y6, y7, y8, y9, none, none, none, none, none, none, none, none, none]) (S := S3)
    (fun i ρ S => ∃ (cs : List Cl) (z6 z7 z8 z10 z11 z12 z13 z14 z15 z16 z17 z18 : Option D), ρ = [some (.obj 0), some (.lst (l.map dF)), some (dk Hx.n dHx L), some (.lst (cs.map dC)), some (.lst ((l.map (·.1)).map .str)), some (dk (·.1) (dA l) l), z6, z7, z8, y9, z10, z11, z12, z13, z14, z15, z16, z17, z18] ∧ cs.map toP = l.take i ∧ (∀ c ∈ cs, Cz l L c) ∧ Row cells T S)
    ⟨[], _, _, _, _, _, _, _, _, _, _, _, _, rfl, rfl, by simp, b3⟩ (by
      rintro i x ρ S hx ⟨cs, z6, z7, z8, z10, z11, z12, z13, z14, z15, z16, z17, z18, rfl, hm, hz, b⟩
      rw [List.getElem?_map] at hx
      cases hp : l[i]? with
      | none => rw [hp] at hx; cases hx
      | some p =>
        rw [hp] at hx
        cases hx
        have cl : cs.length ≤ 7 := by
          have : cs.length = (l.take i).length := by rw [← hm, List.length_map]
          simp at this; omega
        obtain ⟨c, z8', z10', z11', z12', z13', z14', z15', z16', z17', z18', S', e, en, eu, hc, b'⟩ := cl_ok (cs := cs) (p := p) hT hL b cl (x8 := z8) (x9 := y9) (x10 := z10) (x11 := z11) (x12 := z12) (x13 := z13) (x14 := z14) (x15 := z15) (x16 := z16) (x17 := z17) (x18 := z18)
        refine ⟨_, _, S', rfl, .inl e, cs ++ [c], _, _, _, _, _, _, _, _, _, _, _, _, rfl, ?_, ?_, b'⟩
        · rw [List.map_append, hm, List.take_add_one, hp, List.map_singleton]
          show _ ++ [(c.n, c.u)] = _
          rw [en, eu]
          rfl
        · intro d hd
          rcases List.mem_append.mp hd with hd | hd
          · exact hz d hd
          · rw [List.mem_singleton.mp hd]; exact hc)
  rw [List.length_map, List.take_length] at hm
  have ll : cs.length = l.length := by rw [← hm, List.length_map]
  have en : cs.map Cl.n = l.map (·.1) := by rw [← hm, List.map_map]; rfl
  have hO := begs_house hT hL hm hz
  refine ⟨cs, S4, ?_, hO, by omega, b4⟩
  refine fn_rt ?_
  show b__law_begins [some (.obj 0), none, none, none, none, none, none, none, none, none, none, none, none, none, none, none, none, none, none] S = _
  have r1 : (1 + (r : Int)) = ((1 + r : Nat) : Int) := by omega
  show sSeq _ (sSeq _ (sSeq (sFor _ _ hdB) (sSeq (sFor _ _ clB) _))) _ _ = _
  rw [seq_nx (par_ok (ds := [.lst (l.map dF), .dct [], .lst []]) (S1 := S2) (cons_ok (call_ok (cons_ok (var_ok rfl) (cons_ok (e2_ok c_ok (call_ok (cons_ok (var_ok rfl) (cons_ok c_ok nil_ok)) e1') (by rw [← r1]; rfl)) nil_ok)) e2') (cons_ok rfl (cons_ok (lst_ok nil_ok (by simp)) nil_ok))))]
  simp only [putD', List.set_cons_succ, List.set_cons_zero]
  have lc1 := lcD_map (g := gtTup (gtCons (gtName 6) (gtCons (gtName 7) gtNil))) (fe := eVar 6) (ρ := [some (.obj 0), some (.lst (l.map dF)), some (.dct []), some (.lst []), none, none, none, none, none, none, none, none, none, none, none, none, none, none, none]) (S := S2) dF (fun p : Str × Str => D.str p.1) (l := l) (acc := []) (fun p _ => ⟨_, rfl, var_ok rfl⟩)
  have em : l.map (fun p : Str × Str => D.str p.1) = (l.map (·.1)).map .str := by rw [List.map_map]; rfl
  rw [List.nil_append, em] at lc1
  rw [seq_nx (par_ok (ds := [.lst ((l.map (·.1)).map .str), .dct []]) (S1 := S2) (cons_ok (lc_ok (S1 := S2) (seq_ok (ds := l.map dF) (var_ok rfl)) lc1) (cons_ok rfl nil_ok)))]
  simp only [putD', List.set_cons_succ, List.set_cons_zero]
  rw [seq_nx (for_ok (S1 := S2) (seq_ok (ds := l.map dF) (var_ok rfl)) e3)]
  rw [seq_nx (for_ok (S1 := S3) (seq_ok (ds := l.map dF) (var_ok rfl)) e4)]
  refine ret_ok (tup_ok (S1 := S4) (cons_ok (eN_ok (d := dCs cs) (cons_ok (var_ok rfl) nil_ok) ?_) (cons_ok (var_ok ?_) nil_ok)) (by simp))
  · simp only [List.map_cons, List.map_nil, deref_lst, f1, tupF, dCs]
  · rw [en]; rfl
end K86

set_option maxHeartbeats 4000000
namespace K86
open DL PySem PySem.Spec PyProof.Rows L2 H Hr
/-! ### what is led to -/
inductive Rch (us : Str → List Str) (a : Str) : Str → Prop
  | base {o : Str} (h : o ∈ us a) : Rch us a o
  | step {b o : Str} (h : Rch us a b) (k : o ∈ us b) : Rch us a o
section
variable {N : List Str} {us : Str → List Str} {a b c o : Str}
theorem Rch.trans (h : Rch us a b) (k : Rch us b c) : Rch us a c := by
  induction k with
  | base q => exact .step h q
  | step _ q ih => exact .step ih q
theorem Rch.head (h : Rch us a o) : ∃ y ∈ us a, y = o ∨ Rch us y o := by
  induction h with
  | base q => exact ⟨_, q, .inl rfl⟩
  | step _ q ih =>
    obtain ⟨y, hy, e | e⟩ := ih
    · exact ⟨y, hy, .inr (e ▸ .base q)⟩
    · exact ⟨y, hy, .inr (.step e q)⟩
theorem Rch.inN (hu : UsOk N us) (ha : a ∈ N) (h : Rch us a o) : o ∈ N := by
  induction h with
  | base q => exact hu.sub _ ha _ q
  | step _ q ih => exact hu.sub _ ih _ q
theorem Rch.clo {F : List Str} (h : Rch us a o) (h0 : ∀ o ∈ us a, o ∈ F) (h1 : ∀ x ∈ F, ∀ o ∈ us x, o ∈ F) : o ∈ F := by
  induction h with
  | base q => exact h0 _ q
  | step _ q ih => exact h1 _ ih _ q
end
theorem while_ok {fc : EF} {fb : SF} (I : Nat → DEnv → Sto → Prop) (E : DEnv → Sto → Prop) (R : D → Sto → Prop)
    (step : ∀ m ρ S, I m ρ S → (fc ρ S = .ok (.bl false) S ∧ E ρ S) ∨ (fc ρ S = .ok (.bl true) S ∧ ((∃ m' ρ' S', m' < m ∧ fb ρ S = .nx ρ' S' ∧ I m' ρ' S') ∨ ∃ d S', fb ρ S = .rt d S' ∧ R d S'))) :
    ∀ k m ρ S, m < k → I m ρ S → (∃ ρ' S', whileD fc fb k ρ S = .nx ρ' S' ∧ E ρ' S') ∨ ∃ d S', whileD fc fb k ρ S = .rt d S' ∧ R d S' := by
  intro k
  induction k with
  | zero => intro m ρ S h; omega
  | succ k ih =>
    intro m ρ S hk hI
    unfold whileD
    rcases step m ρ S hI with ⟨e, hE⟩ | ⟨e, ⟨m', ρ', S', hm, eb, hI'⟩ | ⟨d, S', eb, hR⟩⟩
    · exact .inl ⟨ρ, S, by simp only [sBind, e], hE⟩
    · rcases ih m' ρ' S' (by omega) hI' with ⟨ρ2, S2, e2, h2⟩ | ⟨d, S2, e2, h2⟩
      · exact .inl ⟨ρ2, S2, by simp only [sBind, e, eb, e2], h2⟩
      · exact .inr ⟨d, S2, by simp only [sBind, e, eb, e2], h2⟩
    · exact .inr ⟨d, S', by simp only [sBind, e, eb], hR⟩
/-! ### led_from -/
def ldS (s : List Str × List Str) (o : Str) : List Str × List Str := if o ∈ s.1 then s else (s.1 ++ [o], s.2 ++ [o])
theorem fold_ld : ∀ (os : List Str) (s : List Str × List Str), ∃ new, (os.foldl ldS s).1 = s.1 ++ new ∧ (os.foldl ldS s).2 = s.2 ++ new ∧ (s.1.Nodup → (os.foldl ldS s).1.Nodup) ∧ (∀ o ∈ new, o ∈ os) ∧ ∀ o ∈ os, o ∈ (os.foldl ldS s).1
  | [], s => ⟨[], by simp, by simp, fun h => h, by simp, by simp⟩
  | o :: os, s => by
    obtain ⟨new, e1, e2, e3, e4, e5⟩ := fold_ld os (ldS s o)
    simp only [List.foldl_cons]
    by_cases q : o ∈ s.1
    · have e : ldS s o = s := if_pos q
      rw [e] at e1 e2 e3 e5 ⊢
      refine ⟨new, e1, e2, e3, fun x hx => List.mem_cons_of_mem _ (e4 x hx), fun x hx => ?_⟩
      rcases List.mem_cons.mp hx with rfl | hx
      · rw [e1]; exact List.mem_append_left _ q
      · exact e5 x hx
    · have e : ldS s o = (s.1 ++ [o], s.2 ++ [o]) := if_neg q
      rw [e] at e1 e2 e3 e5 ⊢
      refine ⟨o :: new, by rw [e1]; simp, by rw [e2]; simp, fun h => e3 ?_, fun x hx => ?_, fun x hx => ?_⟩
      · rw [List.nodup_append]
        exact ⟨h, by simp, fun x hx y hy => by rw [List.mem_singleton] at hy; subst hy; exact fun q' => q (q' ▸ hx)⟩
      · rcases List.mem_cons.mp hx with rfl | hx
        · exact List.mem_cons_self
        · exact List.mem_cons_of_mem _ (e4 x hx)
      · rcases List.mem_cons.mp hx with rfl | hx
        · rw [e1]; simp
        · exact e5 x hx
structure LdI (us : Str → List Str) (a : Str) (s : List Str × List Str) : Prop where
  nd : s.1.Nodup
  sub : ∀ o ∈ s.1, Rch us a o
  ln : ∀ x ∈ s.2, x = a ∨ x ∈ s.1
  clo : ∀ x, (x = a ∨ x ∈ s.1) → x ∉ s.2 → ∀ o ∈ us x, o ∈ s.1
theorem LdI.turn {us : Str → List Str} {a x : Str} {f init : List Str} (h : LdI us a (f, init ++ [x])) : LdI us a ((us x).foldl ldS (f, init)) := by
  obtain ⟨new, e1, e2, e3, e4, e5⟩ := fold_ld (us x) (f, init)
  have hx : x = a ∨ x ∈ f := h.ln x (by simp)
  refine ⟨e3 h.nd, fun o ho => ?_, fun y hy => ?_, fun y hy hny o ho => ?_⟩
  · rw [e1] at ho
    rcases List.mem_append.mp ho with ho | ho
    · exact h.sub o ho
    · rcases hx with rfl | hx
      · exact .base (e4 o ho)
      · exact .step (h.sub x hx) (e4 o ho)
  · rw [e2] at hy
    rw [e1]
    rcases List.mem_append.mp hy with hy | hy
    · rcases h.ln y (List.mem_append_left _ hy) with q | q
      · exact .inl q
      · exact .inr (List.mem_append_left _ q)
    · exact .inr (List.mem_append_right _ hy)
  · rw [e2] at hny
    by_cases q : y = x
    · subst q; exact e5 o ho
    · have hy' : y = a ∨ y ∈ f := by
        rcases hy with hy | hy
        · exact .inl hy
        · rw [e1] at hy
          rcases List.mem_append.mp hy with hy | hy
          · exact .inr hy
          · exact absurd (List.mem_append_right _ hy) hny
      rw [e1]
      refine List.mem_append_left _ (h.clo y hy' (fun z => ?_) o ho)
      rcases List.mem_append.mp z with z | z
      · exact hny (List.mem_append_left _ z)
      · exact q (List.mem_singleton.mp z)
theorem LdI.fin {us : Str → List Str} {a : Str} {f : List Str} (h : LdI us a (f, [])) (o : Str) : o ∈ f ↔ Rch us a o :=
  ⟨h.sub o, fun q => q.clo (h.clo a (.inl rfl) (by simp)) fun x hx => h.clo x (.inr hx) (by simp)⟩
theorem LdI.init (us : Str → List Str) (a : Str) : LdI us a ([], [a]) := ⟨by simp, by simp, fun x hx => .inl (List.mem_singleton.mp hx), fun x hx hn => by
  rcases hx with rfl | hx
  · exact absurd List.mem_cons_self hn
  · cases hx⟩
theorem LdI.len {N : List Str} {us : Str → List Str} (hu : UsOk N us) {a : Str} (ha : a ∈ N) {s : List Str × List Str} (h : LdI us a s) : s.1.length ≤ 7 :=
  Nat.le_trans (nodup_le h.nd fun o ho => (h.sub o ho).inN hu ha) hu.len
theorem set_last (S : Sto) (u v : SO) : (S ++ [u]).set S.length v = S ++ [v] := by simp [List.set_append]
def trD (_ : Str) : D := .bl true
def led (L : List Str) : D := dk id trD L
theorem in_led (L : List Str) (s : Str) : inF (.str s) (led L) = some (.bl (decide (s ∈ L))) := by
  have := in_txt id trD L s
  unfold led
  rw [this]
  congr 2
  cases h : fnd id L s with
  | none =>
    refine (decide_eq_false fun q => ?_).symm
    have := List.find?_eq_none.mp h s q
    simp at this
  | some b =>
    obtain ⟨m, e⟩ := fnd_mem id h
    exact (decide_eq_true (by rw [← e]; exact m)).symm
theorem notin_led (L : List Str) (s : Str) : notInF (.str s) (led L) = some (.bl (!decide (s ∈ L))) := by
  have := in_led L s
  unfold inF at this
  unfold notInF
  cases q : inB (.str s) (led L) with
  | none => rw [q] at this; simp at this
  | some b => rw [q] at this; simpa using this
def ldB : SF := (sIf (e2 notInF (eVar 4) (eVar 2)) (sSeq (sPut 2 (eVar 4) (eC (.bl true))) (sAppE (eVar 3) (eVar 4))) sNext)
section
variable {S : Sto} {cs : List Cl} {h : Nat} {a : Str}
theorem lds_ok {x1 : Option D} : ∀ (os : List Str) (s : List Str × List Str) (x4 : Option D), s.1.length + os.length ≤ 1000 → s.2.length + os.length ≤ 1000 →
    ∃ x4', forD (gtName 4) ldB (os.map .str) [some (.obj h), x1, some (led s.1), some (.obj S.length), x4] (S ++ [.lst (s.2.map .str)]) = .nx [some (.obj h), x1, some (led (os.foldl ldS s).1), some (.obj S.length), x4'] (S ++ [.lst ((os.foldl ldS s).2.map .str)])
  | [], s, x4, _, _ => ⟨x4, rfl⟩
  | o :: os, s, x4, h1, h2 => by
    simp only [List.length_cons] at h1 h2
    have lS : ldS s o = if o ∈ s.1 then s else (s.1 ++ [o], s.2 ++ [o]) := rfl
    have n1 : e2 notInF (eVar 4) (eVar 2) [some (.obj h), x1, some (led s.1), some (.obj S.length), some (.str o)] (S ++ [.lst (s.2.map .str)]) = .ok (.bl (!decide (o ∈ s.1))) (S ++ [.lst (s.2.map .str)]) := e2_ok (x := .str o) (y := led s.1) (S1 := S ++ [.lst (s.2.map .str)]) (var_ok rfl) (var_ok rfl) (notin_led s.1 o)
    by_cases q : o ∈ s.1
    · rw [if_pos q] at lS
      rw [decide_eq_true q] at n1
      obtain ⟨x4', e⟩ := lds_ok (x1 := x1) os s (some (.str o)) (by omega) (by omega)
      refine ⟨x4', ?_⟩
      rw [List.foldl_cons, lS]
      exact (forD_nx (ρ1 := [some (.obj h), x1, some (led s.1), some (.obj S.length), some (.str o)]) rfl (if_f n1)).trans e
    · rw [if_neg q] at lS
      rw [decide_eq_false q] at n1
      obtain ⟨x4', e⟩ := lds_ok (x1 := x1) os (s.1 ++ [o], s.2 ++ [o]) (some (.str o)) (by simp; omega) (by simp; omega)
      refine ⟨x4', ?_⟩
      rw [List.foldl_cons, lS]
      have g0 : (S ++ [SO.lst (s.2.map D.str)])[S.length]? = some (.lst (s.2.map .str)) := by rw [List.getElem?_append_right (by omega)]; simp
      have st : (S ++ [SO.lst (s.2.map D.str)]).set S.length (.lst (s.2.map D.str ++ [.str o])) = S ++ [.lst ((s.2 ++ [o]).map .str)] := by
        rw [set_last]
        simp
      have put := put_txt id trD (L := s.1) (a := o) (fun b hb (q' : b = o) => q (q' ▸ hb)) (lim_le (by omega))
      have bd : ldB [some (.obj h), x1, some (led s.1), some (.obj S.length), some (.str o)] (S ++ [.lst (s.2.map .str)]) = .nx [some (.obj h), x1, some (led (s.1 ++ [o])), some (.obj S.length), some (.str o)] (S ++ [.lst ((s.2 ++ [o]).map .str)]) := by
        unfold ldB
        rw [if_t n1]
        rw [seq_nx (sput_ok (v := .bl true) (k := .str o) (d := led s.1) (d' := led (s.1 ++ [o])) c_ok rfl (var_ok rfl) put)]
        have ap := appE_ok (fo := eVar 3) (f := eVar 4) (ρ := [some (.obj h), x1, some (led (s.1 ++ [o])), some (.obj S.length), some (.str o)]) (T := S ++ [.lst (s.2.map .str)]) (n := S.length) (ds := s.2.map .str) (d := .str o) (var_ok rfl) g0 (var_ok rfl) (lim_le (by simp; omega))
        rw [st] at ap
        exact ap
      exact (forD_nx (ρ1 := [some (.obj h), x1, some (led s.1), some (.obj S.length), some (.str o)]) rfl bd).trans e
theorem ledfrom_ok (hh : HAt S h cs) (hO : HouseOk cs) (hu : UsOk (cs.map Cl.n) (uses cs)) (ha : a ∈ cs.map Cl.n) :
    ∃ F, f_led_from [.obj h, .str a] S = .ok (led F) (S ++ [.lst []]) ∧ F.Nodup ∧ ∀ o, o ∈ F ↔ Rch (uses cs) a o := by
  have key := while_ok (fc := e2 neF (eVar 3) (eLst aNil)) (fb := sFor (iSeq (eCall f_used_by (aCons (eVar 0) (aCons (ePop (eVar 3)) aNil)))) (gtName 4) ldB)
    (fun m ρ T => ∃ s x4, ρ = [some (.obj h), some (.str a), some (led s.1), some (.obj S.length), x4] ∧ T = S ++ [.lst (s.2.map .str)] ∧ LdI (uses cs) a s ∧ s.2.length + (7 - s.1.length) ≤ m ∧ m ≤ 8)
    (fun ρ T => ∃ F x4, ρ = [some (.obj h), some (.str a), some (led F), some (.obj S.length), x4] ∧ T = S ++ [.lst []] ∧ LdI (uses cs) a (F, []))
    (fun _ _ => False) (by
      rintro m ρ T ⟨s, x4, rfl, rfl, hI, hm, hm8⟩
      have l7 := hI.len hu ha
      have sN : ∀ x ∈ s.2, x ∈ cs.map Cl.n := fun x hx => by
        rcases hI.ln x hx with rfl | q
        · exact ha
        · exact (hI.sub x q).inN hu ha
      have g0 : (S ++ [SO.lst (s.2.map D.str)])[S.length]? = some (.lst (s.2.map .str)) := by rw [List.getElem?_append_right (by omega)]; simp
      have dr : deref (S ++ [SO.lst (s.2.map D.str)]) (.obj S.length) = .lst (s.2.map .str) := by simp only [deref, g0]
      have okn : shD (.lst (s.2.map D.str)) = true := okD_sh (okD_lst (n := 0) fun d hd => by
        obtain ⟨x, hx, rfl⟩ := List.mem_map.mp hd
        obtain ⟨c, hc, rfl⟩ := List.mem_map.mp (sN x hx)
        obtain ⟨i, hi⟩ := List.mem_iff_getElem?.mp hc
        exact (hO.cl i c hi).w.ok) (by decide)
      have ne : e2 neF (eVar 3) (eLst aNil) [some (.obj h), some (.str a), some (led s.1), some (.obj S.length), x4] (S ++ [.lst (s.2.map .str)]) = .ok (.bl (!(s.2.map D.str).isEmpty)) (S ++ [.lst (s.2.map .str)]) := e2_ok (x := .obj S.length) (y := .lst []) (S1 := S ++ [.lst (s.2.map .str)]) (var_ok rfl) (lst_ok nil_ok (by simp)) (by rw [dr, deref_lst]; exact ne_nilG okn)
      obtain ⟨f, ln⟩ := s
      rcases List.eq_nil_or_concat ln with rfl | ⟨init, x, rfl⟩
      · left
        exact ⟨ne, f, x4, rfl, rfl, hI⟩
      · right
        rw [List.concat_eq_append] at *
        refine ⟨by rw [ne]; simp, .inl ?_⟩
        have hxN := sN x (by simp)
        obtain ⟨c, hc, ec⟩ := List.mem_map.mp hxN
        have hI' := hI.turn
        obtain ⟨new, e1, e2, e3, e4, e5⟩ := fold_ld (uses cs x) (f, init)
        have u7 := hu.ul x hxN
        have l7' : ((uses cs x).foldl ldS (f, init)).1.length ≤ 7 := hI'.len hu ha
        have il : init.length ≤ 20 + init.length := by omega
        have pop : ePop (eVar 3) [some (.obj h), some (.str a), some (led f), some (.obj S.length), x4] (S ++ [.lst ((init ++ [x]).map .str)]) = .ok (.str x) (S ++ [.lst (init.map .str)]) := by
          have v3 : eVar 3 [some (.obj h), some (.str a), some (led f), some (.obj S.length), x4] (S ++ [.lst ((init ++ [x]).map .str)]) = .ok (.obj S.length) (S ++ [.lst ((init ++ [x]).map .str)]) := var_ok rfl
          have gl : ((init ++ [x]).map D.str)[((init ++ [x]).map D.str).length - 1]? = some (.str x) := by simp
          have g0' : (S ++ [SO.lst ((init ++ [x]).map D.str)])[S.length]? = some (.lst ((init ++ [x]).map .str)) := g0
          simp only [ePop, v3, Res.bind_ok, popD, g0', gl]
          rw [set_last]
          simp
        have hh' : HAt (S ++ [.lst (init.map .str)]) h cs := by
          unfold HAt at hh ⊢
          rw [List.getElem?_append_left (List.getElem?_eq_some_iff.mp hh).1]
          exact hh
        have ub := usedby_ok hh' hO hc
        rw [ec] at ub
        have mm : init.length + 1 + (7 - f.length) ≤ m := by simpa using hm
        obtain ⟨x4', el⟩ := lds_ok (S := S) (h := h) (x1 := some (.str a)) (uses cs x) (f, init) x4 (by show f.length + _ ≤ _; have := hI.len hu ha; have : f.length ≤ 7 := this; omega) (by show init.length + _ ≤ _; omega)
        have fl : ((uses cs x).foldl ldS (f, init)).1.length = f.length + new.length := by rw [e1, List.length_append]
        have ll : ((uses cs x).foldl ldS (f, init)).2.length = init.length + new.length := by rw [e2, List.length_append]
        refine ⟨m - 1, _, _, by omega, for_ok (S1 := S ++ [.lst (init.map .str)]) (seq_ok (ds := (uses cs x).map .str) (call_ok (cons_ok (var_ok rfl) (cons_ok pop nil_ok)) ub)) el, (uses cs x).foldl ldS (f, init), x4', rfl, rfl, hI', by omega, by omega⟩)
  rcases key FUEL 8 [some (.obj h), some (.str a), some (led []), some (.obj S.length), none] (S ++ [.lst [.str a]]) (by decide) ⟨([], [a]), none, rfl, rfl, .init _ _, by simp, by omega⟩ with ⟨ρ', T, e, F, x4, rfl, rfl, hF⟩ | ⟨_, _, _, q⟩
  · refine ⟨F, fn_rt ?_, hF.nd, hF.fin⟩
    show b_led_from [some (.obj h), some (.str a), none, none, none] S = _
    unfold b_led_from
    have ob : eObj (eLst (aCons (eVar 1) aNil)) [some (.obj h), some (.str a), none, none, none] S = .ok (.obj S.length) (S ++ [.lst [.str a]]) := by
      have : eLst (aCons (eVar 1) aNil) [some (.obj h), some (.str a), none, none, none] S = .ok (.lst [.str a]) S := lst_ok (cons_ok (var_ok rfl) nil_ok) (by simp)
      simp only [eObj, this]
    rw [seq_nx (par_ok (ds := [.dct [], .obj S.length]) (S1 := S ++ [.lst [.str a]]) (cons_ok rfl (cons_ok ob nil_ok)))]
    simp only [putD', List.set_cons_succ, List.set_cons_zero]
    have e' : sWhile (e2 neF (eVar 3) (eLst aNil)) (sFor (iSeq (eCall f_used_by (aCons (eVar 0) (aCons (ePop (eVar 3)) aNil)))) (gtName 4) ldB) [some (.obj h), some (.str a), some (.dct []), some (.obj S.length), none] (S ++ [.lst [.str a]]) = .nx [some (.obj h), some (.str a), some (led F), some (.obj S.length), x4] (S ++ [.lst []]) := e
    unfold ldB at e'
    rw [seq_nx e']
    exact ret_ok (var_ok rfl)
  · exact q.elim
/-! ### the law's own -/
theorem uses_nd (nm : Str) : (uses cs nm).Nodup := by
  unfold uses
  split
  · rename_i c _
    exact (dd_fold nm (rawC c) [] ⟨.nil, by simp⟩).1.1
  · exact .nil
def grow (us : Str → List Str) (f : List Str) (o : Str) : List Str := f ++ (us o).filter fun x => !decide (x ∈ f)
structure GrI (us : Str → List Str) (a : Str) (f : List Str) : Prop where
  nd : f.Nodup
  sub : ∀ o ∈ f, Rch us a o
  has : ∀ o ∈ us a, o ∈ f
theorem grow_ok {us : Str → List Str} (hn : ∀ n, (us n).Nodup) {f : List Str} {o : Str} (h : GrI us a f) (ho : o ∈ f) : GrI us a (grow us f o) := by
  refine ⟨?_, fun x hx => ?_, fun x hx => List.mem_append_left _ (h.has x hx)⟩
  · unfold grow
    rw [List.nodup_append]
    refine ⟨h.nd, (hn o).sublist List.filter_sublist, fun x hx y hy q => ?_⟩
    subst q
    have := (List.mem_filter.mp hy).2
    simp at this
    exact this hx
  · rcases List.mem_append.mp hx with hx | hx
    · exact h.sub x hx
    · exact .step (h.sub o ho) (List.mem_filter.mp hx).1
theorem grow_sub {us : Str → List Str} (f : List Str) (o : Str) : ∀ x ∈ f, x ∈ grow us f o := fun _ h => List.mem_append_left _ h
theorem grow_use {us : Str → List Str} (f : List Str) (o : Str) : ∀ x ∈ us o, x ∈ grow us f o := fun x hx => by
  by_cases q : x ∈ f
  · exact List.mem_append_left _ q
  · exact List.mem_append_right _ (List.mem_filter.mpr ⟨hx, by simpa using q⟩)
theorem grow_fold {us : Str → List Str} (hn : ∀ n, (us n).Nodup) : ∀ (os f : List Str), GrI us a f → (∀ o ∈ os, o ∈ f) → GrI us a (os.foldl (grow us) f) ∧ (∀ x ∈ f, x ∈ os.foldl (grow us) f) ∧ (∀ o ∈ os, ∀ x ∈ us o, x ∈ os.foldl (grow us) f) ∧ f.length ≤ (os.foldl (grow us) f).length
  | [], f, h, _ => ⟨h, fun _ h => h, by simp, Nat.le_refl _⟩
  | o :: os, f, h, hs => by
    have h1 := grow_ok hn h (hs o List.mem_cons_self)
    obtain ⟨a1, a2, a3, a4⟩ := grow_fold hn os (grow us f o) h1 fun x hx => grow_sub f o x (hs x (List.mem_cons_of_mem _ hx))
    simp only [List.foldl_cons]
    refine ⟨a1, fun x hx => a2 x (grow_sub f o x hx), fun y hy x hx => ?_, ?_⟩
    · rcases List.mem_cons.mp hy with rfl | hy
      · exact a2 x (grow_use f y x hx)
      · exact a3 y hy x hx
    · have : (grow us f o).length = f.length + ((us o).filter fun x => !decide (x ∈ f)).length := by unfold grow; rw [List.length_append]
      omega
theorem GrI.len {N : List Str} {us : Str → List Str} (hu : UsOk N us) (ha : a ∈ N) {f : List Str} (h : GrI us a f) : f.length ≤ 7 :=
  Nat.le_trans (nodup_le h.nd fun o ho => (h.sub o ho).inN hu ha) hu.len
def grB : SF := (sSet 2 (e2 addF (eVar 2) (eLc [5] (iSeq (eCall f__law_uses (aCons (eVar 0) (aCons (eVar 4) aNil)))) (gtName 5) (e2 notInF (eVar 5) (eVar 2)) (eVar 5))))
theorem grs_ok (hO : HouseOk cs) (hu : UsOk (cs.map Cl.n) (uses cs)) (ha : a ∈ cs.map Cl.n) {x1 x3 : Option D} : ∀ (os f : List Str) (x4 x5 : Option D), GrI (uses cs) a f → (∀ o ∈ os, o ∈ f) →
    ∃ x4' x5', forD (gtName 4) grB (os.map .str) [some (dCs cs), x1, some (.lst (f.map .str)), x3, x4, x5] S = .nx [some (dCs cs), x1, some (.lst ((os.foldl (grow (uses cs)) f).map .str)), x3, x4', x5'] S
  | [], f, x4, x5, _, _ => ⟨x4, x5, rfl⟩
  | o :: os, f, x4, x5, h, hs => by
    have hn := fun n => uses_nd (cs := cs) n
    have h1 := grow_ok hn h (hs o List.mem_cons_self)
    obtain ⟨x4', x5', e⟩ := grs_ok hO hu ha (x1 := x1) (x3 := x3) os (grow (uses cs) f o) (some (.str o)) x5 h1 fun x hx => grow_sub f o x (hs x (List.mem_cons_of_mem _ hx))
    refine ⟨x4', x5', ?_⟩
    have oN := (h.sub o (hs o List.mem_cons_self)).inN hu ha
    obtain ⟨c, hc, ec⟩ := List.mem_map.mp oN
    have lu := lawuses_ok (S := S) hO hc
    rw [ec] at lu
    have lc := lcD_filt (g := gtName 5) (fc := e2 notInF (eVar 5) (eVar 2)) (fe := eVar 5) (ρ := [some (dCs cs), x1, some (.lst (f.map .str)), x3, some (.str o), none]) (S := S) D.str D.str (fun x => !decide (x ∈ f)) (l := uses cs o) (acc := []) (fun x _ => ⟨_, rfl, e2_ok (x := .str x) (y := .lst (f.map .str)) (S1 := S) (var_ok rfl) (var_ok rfl) (by rw [deref_str, deref_lst, notInF_lst]), fun _ => var_ok rfl⟩)
    rw [List.nil_append] at lc
    have f7 := h.len hu ha
    have f7' := h1.len hu ha
    have gl : (grow (uses cs) f o).length = f.length + ((uses cs o).filter fun x => !decide (x ∈ f)).length := by unfold grow; rw [List.length_append]
    have q : f.length + ((uses cs o).filter fun x => !decide (x ∈ f)).length < LIM := lim_le (by omega)
    have bd : grB [some (dCs cs), x1, some (.lst (f.map .str)), x3, some (.str o), x5] S = .nx [some (dCs cs), x1, some (.lst ((grow (uses cs) f o).map .str)), x3, some (.str o), x5] S := by
      unfold grB
      refine (set_ok (S' := S) (e2_ok (x := .lst (f.map .str)) (y := .lst (((uses cs o).filter fun x => !decide (x ∈ f)).map .str)) (S1 := S) (var_ok rfl) (lc_ok (S1 := S) (seq_ok (ds := (uses cs o).map .str) (call_ok (cons_ok (var_ok rfl) (cons_ok (var_ok rfl) nil_ok)) lu)) lc) (d := .lst ((grow (uses cs) f o).map .str)) ?_)).trans rfl
      rw [deref_lst, deref_lst]
      simp only [addF, List.length_map, if_pos q, grow, List.map_append]
    exact (forD_nx (ρ1 := [some (dCs cs), x1, some (.lst (f.map .str)), x3, some (.str o), x5]) rfl bd).trans e
theorem lawled_ok (hO : HouseOk cs) (hu : UsOk (cs.map Cl.n) (uses cs)) (ha : a ∈ cs.map Cl.n) :
    ∃ G : List Str, f__law_led [dCs cs, .str a] S = .ok (.lst (G.map .str)) S ∧ G.length ≤ 7 ∧ ∀ o, o ∈ G ↔ Rch (uses cs) a o := by
  have hn := fun n => uses_nd (cs := cs) n
  have key := while_ok (fc := e2 (iLt fun i j => decide (i < j)) (eVar 3) (eN (f1 lenF) (aCons (eVar 2) aNil))) (fb := sSeq (sSet 3 (eN (f1 lenF) (aCons (eVar 2) aNil))) (sFor (iSeq (eN (f1 lstF) (aCons (eVar 2) aNil))) (gtName 4) grB))
    (fun m ρ T => ∃ (f : List Str) (k : Int) (x4 x5 : Option D), ρ = [some (dCs cs), some (.str a), some (.lst (f.map .str)), some (.int k), x4, x5] ∧ T = S ∧ GrI (uses cs) a f ∧ (-1 ≤ k ∧ k ≤ 7 ∧ k + m = 8) ∧ (k = f.length → ∀ x ∈ f, ∀ o ∈ uses cs x, o ∈ f) ∧ k ≤ f.length)
    (fun ρ T => ∃ (f : List Str) (k : Int) (x4 x5 : Option D), ρ = [some (dCs cs), some (.str a), some (.lst (f.map .str)), some (.int k), x4, x5] ∧ T = S ∧ GrI (uses cs) a f ∧ ∀ x ∈ f, ∀ o ∈ uses cs x, o ∈ f)
    (fun _ _ => False) (by
      rintro m ρ T ⟨f, k, x4, x5, rfl, rfl, hI, ⟨k1, k7, km⟩, hc, kf⟩
      have f7 := hI.len hu ha
      have ln : ∀ ρ : DEnv, ρ[2]? = some (some (.lst (f.map .str))) → eN (f1 lenF) (aCons (eVar 2) aNil) ρ T = .ok (.int f.length) T := fun ρ h2 => eN_ok (cons_ok (var_ok h2) nil_ok) (by simp only [List.map_cons, List.map_nil, deref_lst, f1, lenF, List.length_map])
      have lt : e2 (iLt fun i j => decide (i < j)) (eVar 3) (eN (f1 lenF) (aCons (eVar 2) aNil)) [some (dCs cs), some (.str a), some (.lst (f.map .str)), some (.int k), x4, x5] T = .ok (.bl (decide (k < (f.length : Int)))) T := e2_ok (x := .int k) (y := .int f.length) (S1 := T) (var_ok rfl) (ln _ rfl) rfl
      by_cases q : k < (f.length : Int)
      · right
        rw [decide_eq_true q] at lt
        obtain ⟨a1, a2, a3, a4⟩ := grow_fold hn f f hI fun _ h => h
        have f7' := a1.len hu ha
        obtain ⟨x4', x5', e⟩ := grs_ok (S := T) hO hu ha (x1 := some (.str a)) (x3 := some (.int f.length)) f f x4 x5 hI fun _ h => h
        refine ⟨lt, .inl ⟨(8 - f.length), _, T, by omega, ?_, f.foldl (grow (uses cs)) f, f.length, x4', x5', rfl, rfl, a1, ⟨by omega, by omega, by omega⟩, fun el => ?_, by omega⟩⟩
        · rw [seq_set (ln _ rfl)]
          simp only [List.set_cons_succ, List.set_cons_zero]
          exact for_ok (S1 := T) (seq_ok (ds := f.map .str) (eN_ok (cons_ok (var_ok rfl) nil_ok) (by simp only [List.map_cons, List.map_nil, deref_lst, f1, lstF]))) e
        · have same : ∀ x ∈ f.foldl (grow (uses cs)) f, x ∈ f := by
            have el' : (f.foldl (grow (uses cs)) f).length = f.length := by omega
            intro x hx
            exact Classical.byContradiction fun nx => by
              have := nodup_le (l := x :: f) (List.nodup_cons.mpr ⟨nx, hI.nd⟩) (N := f.foldl (grow (uses cs)) f) fun y hy => by
                rcases List.mem_cons.mp hy with rfl | hy
                · exact hx
                · exact a2 y hy
              simp at this
              omega
          intro x hx o ho
          exact a3 x (same x hx) o ho
      · left
        rw [decide_eq_false q] at lt
        exact ⟨lt, f, k, x4, x5, rfl, rfl, hI, hc (by omega)⟩)
  obtain ⟨c, hc, ec⟩ := List.mem_map.mp ha
  have lu := lawuses_ok (S := S) hO hc
  rw [ec] at lu
  rcases key FUEL 9 [some (dCs cs), some (.str a), some (.lst ((uses cs a).map .str)), some (.int (-1)), none, none] S (by decide) ⟨uses cs a, -1, none, none, rfl, rfl, ⟨hn a, fun o ho => .base ho, fun _ h => h⟩, ⟨by omega, by omega, by omega⟩, fun e => by omega, by omega⟩ with ⟨ρ', T, e, f, k, x4, x5, rfl, rfl, hI, hcl⟩ | ⟨_, _, _, q⟩
  · refine ⟨f, fn_rt ?_, hI.len hu ha, fun o => ⟨hI.sub o, fun q => q.clo hI.has hcl⟩⟩
    show b__law_led [some (dCs cs), some (.str a), none, none, none, none] T = _
    unfold b__law_led
    rw [seq_nx (par_ok (ds := [.lst ((uses cs a).map .str), .int (-1)]) (S1 := T) (cons_ok (call_ok (cons_ok (var_ok rfl) (cons_ok (var_ok rfl) nil_ok)) lu) (cons_ok (by rfl) nil_ok)))]
    simp only [putD', List.set_cons_succ, List.set_cons_zero]
    have e' : sWhile (e2 (iLt fun i j => decide (i < j)) (eVar 3) (eN (f1 lenF) (aCons (eVar 2) aNil))) (sSeq (sSet 3 (eN (f1 lenF) (aCons (eVar 2) aNil))) (sFor (iSeq (eN (f1 lstF) (aCons (eVar 2) aNil))) (gtName 4) grB)) [some (dCs cs), some (.str a), some (.lst ((uses cs a).map .str)), some (.int (-1)), none, none] T = _ := e
    unfold grB at e'
    rw [seq_nx e']
    exact ret_ok (var_ok rfl)
  · exact q.elim
end
end K86

set_option maxHeartbeats 4000000
namespace K86
open DL PySem PySem.Spec PyProof.Rows L2 H Hr
open Classical in
noncomputable def rB (us : Str → List Str) (a o : Str) : Bool := decide (Rch us a o)
theorem rB_of {us : Str → List Str} {a o : Str} {F : List Str} (h : o ∈ F ↔ Rch us a o) : decide (o ∈ F) = rB us a o := by
  unfold rB
  exact decide_eq_decide.mpr h
noncomputable def rg (us : Str → List Str) (N : List Str) (n : Str) : List Str := srtS (N.filter fun o => rB us n o && rB us o n)
def addR (acc : List (List Str)) (r : List Str) : List (List Str) := if r ∈ acc then acc else acc ++ [r]
def addG (acc : List (List Str)) (r : List Str) : List (List Str) := if 1 < r.length then addR acc r else acc
noncomputable def rgs (us : Str → List Str) (N : List Str) : List (List Str) := (N.map (rg us N)).foldl addG []
/-! ### dicts by tuples of texts -/
def dtR (acc : List (List Str)) : D := .dtt (acc.map fun r => (dO r, .bl true))
theorem ksOf_strs : ∀ l : List Str, ksOf (l.map .str) = some (l.map .inr)
  | [] => rfl
  | x :: l => by simp [ksOf, kOf, ksOf_strs l]
theorem tOf_O (r : List Str) : tOf (dO r) = some (r.map .inr) := by simp [dO, tOf, ksOf_strs]
theorem inr_inj (a b : List Str) : (a.map (Sum.inr : Str → L2.Key)) = b.map .inr ↔ a = b := by
  constructor
  · intro h
    induction a generalizing b with
    | nil => cases b with
      | nil => rfl
      | cons y b => simp at h
    | cons x a ih => cases b with
      | nil => simp at h
      | cons y b =>
        simp only [List.map_cons, List.cons.injEq] at h
        obtain ⟨h1, h2⟩ := h
        injection h1 with h1
        rw [h1, ih b h2]
  · intro h; rw [h]
theorem setF_R {acc : List (List Str)} {r : List Str} (h : acc.length < LIM) : setF (dtR acc) (dO r) (.bl true) = some (dtR (addR acc r)) := by
  unfold dtR setF
  simp only [tOf_O, List.length_map, h, if_true]
  congr 2
  have hany : ((acc.map fun e => (dO e, D.bl true)).any fun kv => decide (tOf kv.1 = some (r.map .inr))) = decide (r ∈ acc) := by
    rw [List.any_map]
    simp only [Function.comp_def, tOf_O, Option.some.injEq, inr_inj]
    rw [Bool.eq_iff_iff]
    simp [List.any_eq_true]
  unfold putKD addR
  rw [hany]
  by_cases q : r ∈ acc
  · simp only [q, decide_true, if_true, List.map_map]
    refine List.map_congr_left fun a _ => ?_
    simp only [Function.comp_def, tOf_O, Option.some.injEq, inr_inj]
    by_cases w : a = r
    · simp [w]
    · simp [w]
  · simp [q]
theorem addG_len (acc : List (List Str)) (r : List Str) : (addG acc r).length ≤ acc.length + 1 := by
  unfold addG addR; split
  · split <;> simp
  · omega
theorem foldG_len : ∀ (l acc : List (List Str)), (l.foldl addG acc).length ≤ acc.length + l.length
  | [], acc => by simp
  | e :: l, acc => by
    have a := foldG_len l (addG acc e)
    have b := addG_len acc e
    simp only [List.foldl_cons, List.length_cons]
    omega
theorem addG_all {P : List Str → Prop} {acc : List (List Str)} {r : List Str} (h : ∀ x ∈ acc, P x) (hr : 1 < r.length → P r) : ∀ x ∈ addG acc r, P x := by
  intro x hx
  unfold addG addR at hx
  split at hx
  · rename_i q
    split at hx
    · exact h x hx
    · rcases List.mem_append.mp hx with hx | hx
      · exact h x hx
      · rw [List.mem_singleton.mp hx]; exact hr q
  · exact h x hx
theorem foldG_all {P : List Str → Prop} : ∀ (l acc : List (List Str)), (∀ x ∈ acc, P x) → (∀ r ∈ l, 1 < r.length → P r) → ∀ x ∈ l.foldl addG acc, P x
  | [], acc, h, _ => h
  | e :: l, acc, h, k => foldG_all l (addG acc e) (addG_all h (k e List.mem_cons_self)) fun r hr => k r (List.mem_cons_of_mem _ hr)
/-! ### sorted tuples of texts -/
theorem alike_O : ∀ (a b : List Str), PySem.W.alikeAll (toPys (a.map .str)) (toPys (b.map .str)) = true
  | [], b => by cases b <;> simp [toPys, PySem.W.alikeAll]
  | x :: a, [] => by simp [toPys, PySem.W.alikeAll]
  | x :: a, y :: b => by
    simp only [List.map_cons, toPys, PySem.W.alikeAll, alike_O a b, Bool.and_true]
    simp [toPy, PySem.W.alike]
theorem sortOk_O {L : List (List Str)} (hl : L.length < LIM) (h : ∀ r ∈ L, r ≠ []) : sortOk (L.map dO) = true := by
  unfold sortOk
  simp only [Bool.and_eq_true, Bool.or_eq_true, decide_eq_true_eq, List.all_eq_true]
  refine ⟨⟨⟨⟨?_, ?_⟩, .inl ?_⟩, ?_⟩, by rw [List.length_map]; exact hl⟩
  · rw [plDs_all, List.all_eq_true]
    intro d hd
    obtain ⟨x, _, rfl⟩ := List.mem_map.mp hd
    have : plDs (x.map D.str) = true := by
      rw [plDs_all, List.all_eq_true]
      intro d hd
      obtain ⟨y, _, rfl⟩ := List.mem_map.mp hd
      rfl
    simpa [dO, plD] using this
  · intro d hd e he
    obtain ⟨x, _, rfl⟩ := List.mem_map.mp hd
    obtain ⟨y, _, rfl⟩ := List.mem_map.mp he
    simp only [dO, toPy, PySem.W.alike]
    exact alike_O x y
  · intro d hd
    obtain ⟨x, hx, rfl⟩ := List.mem_map.mp hd
    cases x with
    | nil => exact absurd rfl (h [] hx)
    | cons a x => rfl
  · intro d hd
    obtain ⟨x, _, rfl⟩ := List.mem_map.mp hd
    have : PyData.depthAll (toPys (x.map D.str)) ≤ 0 := depthAll_of fun d hd => by
      obtain ⟨y, _, rfl⟩ := List.mem_map.mp hd
      simp [toPy, PyData.depth]
    simp only [dO, toPy, PyData.depth]
    omega
theorem sortA_O {L : List (List Str)} (hl : L.length < LIM) (h : ∀ r ∈ L, r ≠ []) : sortA (.lst (L.map dO)) = some (.lst (sortD (L.map dO))) := by simp only [sortA, itemsA, sortOk_O hl h, if_true]
theorem al_O {L : List (List Str)} (hl : L.length ≤ 1000) (h : ∀ r ∈ L, r.length ≤ 1000) : Al 2 (.lst (sortD (L.map dO))) := by
  have p : (sortD (L.map dO)).Perm (L.map dO) := List.mergeSort_perm _ _
  refine .lst 1 _ (by rw [p.length_eq, List.length_map]; exact hl) fun d hd => ?_
  obtain ⟨r, hr, rfl⟩ := List.mem_map.mp (p.mem_iff.mp hd)
  exact al_strs r (h r hr)
theorem rg_len {us : Str → List Str} {N : List Str} (h : N.length ≤ 7) (n : Str) : (rg us N n).length ≤ 7 := by
  unfold rg
  rw [(srtS_p _).length_eq]
  exact Nat.le_trans (List.length_filter_le _ _) h
theorem rgs_ok {us : Str → List Str} {N : List Str} (h : N.length ≤ 7) : (rgs us N).length ≤ 7 ∧ ∀ r ∈ rgs us N, r ≠ [] ∧ r.length ≤ 7 := by
  constructor
  · have := foldG_len (N.map (rg us N)) []
    simp at this
    unfold rgs; omega
  · refine foldG_all _ _ (by simp) fun r hr q => ⟨fun e => by rw [e] at q; simp at q, ?_⟩
    obtain ⟨n, _, rfl⟩ := List.mem_map.mp hr
    exact rg_len h n
/-! ### the rings of the program -/
structure LpOk (us : Str → List Str) (N : List Str) (Lp : List (Str × List Str)) : Prop where
  nm : Lp.map (·.1) = N
  ok : ∀ p ∈ Lp, ∀ o, o ∈ p.2 ↔ Rch us p.1 o
theorem LpOk.at {us : Str → List Str} {N : List Str} {Lp : List (Str × List Str)} (h : LpOk us N Lp) (nd : N.Nodup) {n : Str} (hn : n ∈ N) : ∃ p, fnd (α := Str × List Str) (·.1) Lp n = some p ∧ ∀ o, decide (o ∈ p.2) = rB us n o := by
  rw [← h.nm] at hn nd
  obtain ⟨p, hp, rfl⟩ := List.mem_map.mp hn
  exact ⟨p, fnd_of (α := Str × List Str) (·.1) nd hp, fun o => rB_of (h.ok p hp o)⟩
section
variable {S : Sto} {cs : List Cl} {h : Nat}
theorem hat_tl {x : Sto} {h : Nat} (hh : HAt S h cs) : HAt (S ++ x) h cs := by
  unfold HAt at hh ⊢
  rw [List.getElem?_append_left (List.getElem?_eq_some_iff.mp hh).1]
  exact hh
def ldV (p : Str × List Str) : D := led p.2
theorem putKD_new {α : Type} (key : α → Str) (val : α → D) {L : List α} {a : α} (h : ∀ b ∈ L, key b ≠ key a) : putKD (L.map fun a => (D.str (key a), val a)) (fun x => decide (kOf x = some (Sum.inr (key a)))) (.str (key a)) (val a) = (L ++ [a]).map fun a => (D.str (key a), val a) := by
  have nk : ¬ ((L.map fun a => (D.str (key a), val a)).any fun kv => decide (kOf kv.1 = some (Sum.inr (key a)))) = true := by
    rw [List.any_map, List.any_eq_true]
    rintro ⟨b, hb, q⟩
    have q' : kOf (D.str (key b)) = some (.inr (key a)) := of_decide_eq_true q
    have : (some (Sum.inr (key b)) : Option L2.Key) = some (Sum.inr (key a)) := q'
    injection this with this
    injection this with this
    exact h b hb this
  unfold putKD
  rw [if_neg nk, List.map_append]
  rfl
theorem dc_led (hO : HouseOk cs) (hu : UsOk (cs.map Cl.n) (uses cs)) {x1 x2 x3 x5 x6 x7 : Option D} : ∀ (l : List Str) (acc : List (Str × List Str)) (S : Sto), HAt S h cs → (acc.map (·.1) ++ l).Nodup → (∀ n ∈ l, n ∈ cs.map Cl.n) →
    ∃ (Lp : List (Str × List Str)) (S' : Sto), dcD (gtName 4) eYes (eVar 4) (eCall f_led_from (aCons (eVar 0) (aCons (eVar 4) aNil))) (l.map .str) (acc.map fun a => (D.str a.1, ldV a)) [some (.obj h), x1, x2, x3, none, x5, x6, x7] S = .ok (dk (·.1) ldV (acc ++ Lp)) S' ∧ LpOk (uses cs) l Lp ∧ ∃ tl, S' = S ++ tl
  | [], acc, S, _, _, _ => ⟨[], S, by simp [dcD, dk], ⟨rfl, by simp⟩, [], by simp⟩
  | n :: l, acc, S, hh, nd, hl => by
    obtain ⟨F, eF, ndF, hF⟩ := ledfrom_ok hh hO hu (hl n List.mem_cons_self)
    have nin : ∀ b ∈ acc, b.1 ≠ n := fun b hb q => by
      rw [List.nodup_append] at nd
      exact nd.2.2 b.1 (List.mem_map_of_mem hb) n List.mem_cons_self q
    have put := putKD_new (α := Str × List Str) (·.1) ldV (L := acc) (a := (n, F)) nin
    obtain ⟨Lp, S', e, hLp, tl, htl⟩ := dc_led hO hu (x1 := x1) (x2 := x2) (x3 := x3) (x5 := x5) (x6 := x6) (x7 := x7) l (acc ++ [(n, F)]) (S ++ [.lst []]) (hat_tl hh) (by simpa using nd) fun m hm => hl m (List.mem_cons_of_mem _ hm)
    refine ⟨(n, F) :: Lp, S', ?_, ⟨by simp [hLp.nm], fun p hp => ?_⟩, .lst [] :: tl, by rw [htl]; simp⟩
    · have ev : eCall f_led_from (aCons (eVar 0) (aCons (eVar 4) aNil)) [some (.obj h), x1, x2, x3, some (.str n), x5, x6, x7] S = .ok (led F) (S ++ [.lst []]) := call_ok (cons_ok (var_ok rfl) (cons_ok (var_ok rfl) nil_ok)) eF
      have g : gtName 4 (.str n) [some (.obj h), x1, x2, x3, none, x5, x6, x7] = some [some (.obj h), x1, x2, x3, some (.str n), x5, x6, x7] := rfl
      have k4 : eVar 4 [some (.obj h), x1, x2, x3, some (.str n), x5, x6, x7] S = .ok (.str n) S := var_ok rfl
      have kk : kOf (.str n) = some (.inr n) := rfl
      have ey : eYes [some (.obj h), x1, x2, x3, some (.str n), x5, x6, x7] S = .ok (.bl true) S := rfl
      simp only [List.map_cons, dcD, g, ey, k4, ev, kk]
      have put' : putKD (acc.map fun a => (D.str a.1, ldV a)) (fun x => decide (kOf x = some (Sum.inr n))) (.str n) (led F) = (acc ++ [(n, F)]).map fun a => (D.str a.1, ldV a) := put
      rw [put', e]
      simp
    · rcases List.mem_cons.mp hp with rfl | hp
      · exact hF
      · exact hLp.ok p hp
def rgB : SF := (sSeq (sSet 5 (eN (f1 tupF) (aCons (eN (f1 sortA) (aCons (eLc [7] (iSeq (eVar 1)) (gtName 7) (eAnd (e2 inF (eVar 7) (e2 ixF (eVar 2) (eVar 4))) (e2 inF (eVar 4) (e2 ixF (eVar 2) (eVar 7)))) (eVar 7)) aNil)) aNil)))
  (sIf (e2 (iLt fun i j => decide (j < i)) (eN (f1 lenF) (aCons (eVar 5) aNil)) (eC (.int 1))) (sPut 3 (eVar 5) (eC (.bl true))) sNext))
/-- the members of a ring, sorted -/
theorem ring_lc {N : List Str} {us : Str → List Str} (h7 : N.length ≤ 7) {fi : IF} {g : GF} {fa fb fe : EF} {vs : List Nat} {ρ : DEnv} {n : Str} (hfi : fi ρ S = .ok (N.map .str) S)
    (hb : ∀ o ∈ N, ∃ ρ1, g (.str o) (wipeD ρ vs) = some ρ1 ∧ fa ρ1 S = .ok (.bl (rB us n o)) S ∧ fb ρ1 S = .ok (.bl (rB us o n)) S ∧ fe ρ1 S = .ok (.str o) S) :
    eN (f1 tupF) (aCons (eN (f1 sortA) (aCons (eLc vs fi g (eAnd fa fb) fe) aNil)) aNil) ρ S = .ok (dO (rg us N n)) S := by
  have lc := lcD_filt (g := g) (fc := eAnd fa fb) (fe := fe) (ρ := wipeD ρ vs) (S := S) D.str D.str (fun o => rB us n o && rB us o n) (l := N) (acc := []) (fun o ho => by
    obtain ⟨ρ1, e1, e2, e3, e4⟩ := hb o ho
    refine ⟨ρ1, e1, ?_, fun _ => e4⟩
    cases hq : rB us n o with
    | true => rw [hq] at e2; rw [Bool.true_and]; exact and_tt e2 e3
    | false => rw [hq] at e2; exact and_ff e2)
  rw [List.nil_append] at lc
  have lf := List.length_filter_le (fun o => rB us n o && rB us o n) N
  refine eN_ok (cons_ok (eN_ok (d := .lst ((rg us N n).map .str)) (cons_ok (lc_ok (S1 := S) hfi lc) nil_ok) ?_) nil_ok) ?_
  · simp only [List.map_cons, List.map_nil, deref_lst, f1]
    exact sortA_lst (by omega)
  · simp only [List.map_cons, List.map_nil, deref_lst, f1, tupF, dO]
theorem rgs_loop {N : List Str} {us : Str → List Str} (h7 : N.length ≤ 7) {Lp : List (Str × List Str)} (hL : LpOk us N Lp) (nd : N.Nodup) {x0 x6 : Option D} : ∀ (l : List Str) (acc : List (List Str)) (x4 x5 x7 : Option D), (∀ n ∈ l, n ∈ N) → acc.length + l.length ≤ 1000 →
    ∃ x4' x5' x7', forD (gtName 4) rgB (l.map .str) [x0, some (.lst (N.map .str)), some (dk (·.1) ldV Lp), some (dtR acc), x4, x5, x6, x7] S = .nx [x0, some (.lst (N.map .str)), some (dk (·.1) ldV Lp), some (dtR ((l.map (rg us N)).foldl addG acc)), x4', x5', x6, x7'] S
  | [], acc, x4, x5, x7, _, _ => ⟨x4, x5, x7, rfl⟩
  | n :: l, acc, x4, x5, x7, hl, hs => by
    have hn := hl n List.mem_cons_self
    obtain ⟨p, fp, dp⟩ := hL.at nd hn
    have al := addG_len acc (rg us N n)
    simp only [List.length_cons] at hs
    obtain ⟨x4', x5', x7', e⟩ := rgs_loop h7 hL nd (x0 := x0) (x6 := x6) l (addG acc (rg us N n)) (some (.str n)) (some (dO (rg us N n))) x7 (fun m hm => hl m (List.mem_cons_of_mem _ hm)) (by omega)
    refine ⟨x4', x5', x7', ?_⟩
    have rl := ring_lc (S := S) (us := us) h7 (fi := iSeq (eVar 1)) (g := gtName 7) (fa := e2 inF (eVar 7) (e2 ixF (eVar 2) (eVar 4))) (fb := e2 inF (eVar 4) (e2 ixF (eVar 2) (eVar 7))) (fe := eVar 7) (vs := [7]) (n := n) (ρ := [x0, some (.lst (N.map .str)), some (dk (·.1) ldV Lp), some (dtR acc), some (.str n), x5, x6, x7]) (seq_ok (var_ok rfl)) (fun o ho => by
      obtain ⟨q, fq, dq⟩ := hL.at nd ho
      refine ⟨_, rfl, ?_, ?_, var_ok rfl⟩
      · refine e2_ok (x := .str o) (y := led p.2) (S1 := S) (var_ok rfl) (e2_ok (x := dk (α := Str × List Str) (·.1) ldV Lp) (y := .str n) (S1 := S) (var_ok rfl) (var_ok rfl) (ix_txt (α := Str × List Str) (·.1) ldV fp)) ?_
        rw [← dp o]; exact in_led p.2 o
      · refine e2_ok (x := .str n) (y := led q.2) (S1 := S) (var_ok rfl) (e2_ok (x := dk (α := Str × List Str) (·.1) ldV Lp) (y := .str o) (S1 := S) (var_ok rfl) (var_ok rfl) (ix_txt (α := Str × List Str) (·.1) ldV fq)) ?_
        rw [← dq n]; exact in_led q.2 n)
    have ln := lenT_ok (f := eVar 5) (ρ := [x0, some (.lst (N.map .str)), some (dk (·.1) ldV Lp), some (dtR acc), some (.str n), some (dO (rg us N n)), x6, x7]) (S := S) (S1 := S) (ds := (rg us N n).map .str) (var_ok rfl)
    rw [List.length_map] at ln
    have gt : e2 (iLt fun i j => decide (j < i)) (eN (f1 lenF) (aCons (eVar 5) aNil)) (eC (.int 1)) [x0, some (.lst (N.map .str)), some (dk (·.1) ldV Lp), some (dtR acc), some (.str n), some (dO (rg us N n)), x6, x7] S = .ok (.bl (decide ((1 : Int) < ((rg us N n).length : Int)))) S := e2_ok (x := .int (rg us N n).length) (y := .int 1) (S1 := S) ln c_ok rfl
    have bd : rgB [x0, some (.lst (N.map .str)), some (dk (·.1) ldV Lp), some (dtR acc), some (.str n), x5, x6, x7] S = .nx [x0, some (.lst (N.map .str)), some (dk (·.1) ldV Lp), some (dtR (addG acc (rg us N n))), some (.str n), some (dO (rg us N n)), x6, x7] S := by
      unfold rgB
      rw [seq_set rl]
      simp only [List.set_cons_succ, List.set_cons_zero]
      by_cases q : 1 < (rg us N n).length
      · rw [decide_eq_true (by omega)] at gt
        have aG : addG acc (rg us N n) = addR acc (rg us N n) := if_pos q
        rw [if_t gt, aG]
        exact (sput_ok (v := .bl true) (k := dO (rg us N n)) (d := dtR acc) (d' := dtR (addR acc (rg us N n))) (S2 := S) c_ok rfl (var_ok rfl) (by
          have : deref S (dO (rg us N n)) = dO (rg us N n) := rfl
          rw [this]
          exact setF_R (lim_le (by omega)))).trans rfl
      · rw [decide_eq_false (by omega)] at gt
        have aG : addG acc (rg us N n) = acc := if_neg q
        rw [if_f gt, aG]
        rfl
    exact (forD_nx (ρ1 := [x0, some (.lst (N.map .str)), some (dk (·.1) ldV Lp), some (dtR acc), some (.str n), x5, x6, x7]) rfl bd).trans e
theorem lstT_R (acc : List (List Str)) : lstT (dtR acc) = some (.lst (acc.map dO)) := by
  simp [lstT, dtR, List.map_map, Function.comp_def]
theorem userings_ok (hh : HAt S h cs) (hO : HouseOk cs) (hu : UsOk (cs.map Cl.n) (uses cs)) :
    ∃ S', f_use_rings [.obj h] S = .ok (.lst (sortD ((rgs (uses cs) (cs.map Cl.n)).map dO))) S' ∧ ∃ tl, S' = S ++ tl := by
  have h7 : (cs.map Cl.n).length ≤ 7 := hu.len
  obtain ⟨Lp, S1, e1', hL, tl, htl⟩ := dc_led (S := S) hO hu (x1 := some (.lst ((cs.map Cl.n).map .str))) (x2 := none) (x3 := none) (x5 := none) (x6 := none) (x7 := none) (cs.map Cl.n) [] hh (by simpa using hu.nd) (fun _ h => h)
  rw [List.nil_append] at e1'
  obtain ⟨x4', x5', x7', e2'⟩ := rgs_loop (S := S1) h7 hL hu.nd (x0 := some (.obj h)) (x6 := none) (cs.map Cl.n) [] none none none (fun _ h => h) (by simp only [List.length_nil]; omega)
  obtain ⟨r7, rr⟩ := rgs_ok (us := uses cs) h7
  refine ⟨S1, fn_rt ?_, tl, htl⟩
  show b_use_rings [some (.obj h), none, none, none, none, none, none, none] S = _
  unfold b_use_rings
  rw [seq_nx (expr_ok (call_ok (cons_ok (var_ok rfl) nil_ok) (needh_ok hh)))]
  have lc1 := lcD_map (g := gtName 6) (fe := e2 ixF (eVar 6) (eC (.int 0))) (ρ := [some (.obj h), none, none, none, none, none, none, none]) (S := S) dC (fun c : Cl => D.str c.n) (l := cs) (acc := []) (fun c _ => ⟨_, rfl, c_0 (var_ok rfl)⟩)
  have em : cs.map (fun c : Cl => D.str c.n) = (cs.map Cl.n).map .str := by rw [List.map_map]; rfl
  rw [List.nil_append, em] at lc1
  rw [seq_set (lc_ok (S1 := S) (seq_okT (ds := cs.map dC) (told_ok (var_ok rfl) hh)) lc1)]
  simp only [List.set_cons_succ, List.set_cons_zero]
  have dc : eDc [4] (iSeq (eVar 1)) (gtName 4) eYes (eVar 4) (eCall f_led_from (aCons (eVar 0) (aCons (eVar 4) aNil))) [some (.obj h), some (.lst ((cs.map Cl.n).map .str)), none, none, none, none, none, none] S = .ok (dk (·.1) ldV Lp) S1 := by
    have sq : iSeq (eVar 1) [some (.obj h), some (.lst ((cs.map Cl.n).map .str)), none, none, none, none, none, none] S = .ok ((cs.map Cl.n).map .str) S := seq_ok (var_ok rfl)
    simp only [eDc, sq]
    exact e1'
  rw [seq_set dc]
  simp only [List.set_cons_succ, List.set_cons_zero]
  rw [seq_set (d := .dtt []) (S' := S1) rfl]
  simp only [List.set_cons_succ, List.set_cons_zero]
  have fo : sFor (iSeq (eVar 1)) (gtName 4) rgB [some (.obj h), some (.lst ((cs.map Cl.n).map .str)), some (dk (·.1) ldV Lp), some (.dtt []), none, none, none, none] S1 = _ := for_ok (S1 := S1) (seq_ok (ds := (cs.map Cl.n).map .str) (var_ok rfl)) e2'
  unfold rgB at fo
  rw [seq_nx fo]
  refine ret_ok (eN_ok (cons_ok (eN_ok (d := .lst ((rgs (uses cs) (cs.map Cl.n)).map dO)) (cons_ok (var_ok rfl) nil_ok) ?_) nil_ok) ?_)
  · exact lstT_R _
  · simp only [List.map_cons, List.map_nil, deref_lst, f1]
    exact sortA_O (lim_le (by omega)) fun r hr => (rr r hr).1
end
end K86

set_option maxHeartbeats 4000000
namespace K86
open DL PySem PySem.Spec PyProof.Rows L2 H Hr
/-! ### the first of the sorted -/
def dl (x y : D) : Bool := PySem.W.dataLe false toPy x y
theorem dl_trans (a b c : D) : dl a b = true → dl b c = true → dl a c = true := dataLe_tot.trans a b c
theorem dl_tot (a b : D) : dl a b = true ∨ dl b a = true := dataLe_tot.total a b
theorem lt_dl (x y : D) : PySem.W.dataLt (toPy x) (toPy y) = !dl y x := by
  unfold dl PySem.W.dataLe PySem.W.sortLe PySem.W.dataLt
  simp
def mn (a : D) (l : List D) : D := l.foldl (fun a y => if PySem.W.dataLt (toPy y) (toPy a) then y else a) a
theorem mn_cons (b : D) : ∀ (r : List D) (a : D), mn a (b :: r) = if dl a (mn b r) then a else mn b r
  | [], a => by
    show (if PySem.W.dataLt (toPy b) (toPy a) then b else a) = _
    rw [lt_dl]
    show _ = if dl a b then a else b
    cases dl a b <;> rfl
  | c :: r, a => by
    have h1 : mn a (b :: c :: r) = mn (if PySem.W.dataLt (toPy b) (toPy a) then b else a) (c :: r) := rfl
    have h2 : mn b (c :: r) = if dl b (mn c r) then b else mn c r := mn_cons c r b
    have h3 := mn_cons c r a
    rw [h1, lt_dl, h2]
    cases q : dl a b with
    | false =>
      have q' : dl b a = true := (dl_tot a b).resolve_left (by simp [q])
      simp only [Bool.not_false, if_true]
      rw [h2]
      by_cases w : dl b (mn c r) = true
      · simp only [w, if_true, q]; rfl
      · have w' : dl b (mn c r) = false := by simpa using w
        simp only [w']
        have : dl a (mn c r) = false := by
          cases z : dl a (mn c r) with
          | false => rfl
          | true => exact absurd (dl_trans _ _ _ q' z) w
        simp [this]
    | true =>
      simp only [Bool.not_true, Bool.false_eq_true, if_false]
      rw [h3]
      by_cases w : dl b (mn c r) = true
      · have := dl_trans _ _ _ q w
        simp [w, q, this]
      · have w' : dl b (mn c r) = false := by simpa using w
        simp [w']
theorem sort_head : ∀ (l : List D) (a : D), ∃ t, sortD (a :: l) = mn a l :: t
  | [], a => ⟨[], by simp [sortD, mn]⟩
  | b :: l, a => by
    obtain ⟨t, ht⟩ := sort_head l b
    obtain ⟨l1, l2, e1, e2, e3⟩ := List.mergeSort_cons (le := PySem.W.dataLe false toPy) dataLe_tot.trans (fun a b => Bool.or_eq_true_iff.mpr (dataLe_tot.total a b)) a (b :: l)
    have e1 : sortD (a :: b :: l) = l1 ++ a :: l2 := e1
    have e2 : sortD (b :: l) = l1 ++ l2 := e2
    rw [mn_cons]
    have pw := sortD_pw (a :: b :: l)
    rw [e1] at pw
    cases l1 with
    | nil =>
      rw [List.nil_append] at e1 e2 pw
      rw [ht] at e2
      have hm : mn b l ∈ l2 := by rw [← e2]; exact List.mem_cons_self
      have : dl a (mn b l) = true := (List.pairwise_cons.mp pw).1 _ hm
      exact ⟨l2, by rw [e1, if_pos this]⟩
    | cons x l1 =>
      rw [ht] at e2
      injection e2 with e2 _
      have := e3 x List.mem_cons_self
      have q : dl a (mn b l) = false := by
        rw [e2]
        show PySem.W.dataLe false toPy a x = false
        simpa using this
      exact ⟨l1 ++ a :: l2, by rw [e1, if_neg (by simp [q]), e2]; rfl⟩
/-! ### rows -/
def lst (r : List Str) : Str := r.getLast?.getD top
def rep (r : List Str) : Bool := decide (lst r ∈ r.dropLast)
def longer (us : Str → List Str) (R : List (List Str)) : List (List Str) := R.flatMap fun r => (us (lst r)).map fun o => r ++ [o]
def Ls (us : Str → List Str) (a : Str) : Nat → List (List Str)
  | 0 => [[a]]
  | t + 1 => (longer us (Ls us a t)).filter fun r => !rep r
def Gs (us : Str → List Str) (a : Str) (t : Nat) : List (List Str) := (longer us (Ls us a t)).filter rep
def minS : List (List Str) → List Str
  | [] => []
  | a :: l => l.foldl (fun a y => if PySem.W.dataLt (toPy (dO y)) (toPy (dO a)) then y else a) a
def bst (us : Str → List Str) (a : Str) : Nat → Option (List Str)
  | 0 => none
  | t + 1 => if bst us a t = none ∧ Gs us a t ≠ [] then some (minS (Gs us a t)) else bst us a t
theorem minS_mn : ∀ (l : List (List Str)) (a : List Str), mn (dO a) (l.map dO) = dO (minS (a :: l)) := by
  intro l
  unfold mn minS
  induction l with
  | nil => intro a; rfl
  | cons b l ih =>
    intro a
    simp only [List.map_cons, List.foldl_cons]
    by_cases q : PySem.W.dataLt (toPy (dO b)) (toPy (dO a)) = true
    · simp only [q, if_true]; exact ih b
    · rw [Bool.not_eq_true] at q
      simp only [q, Bool.false_eq_true, if_false]; exact ih a
theorem minS_dd {L : List (List Str)} (h : L ≠ []) : minDD (L.map dO) = some (dO (minS L)) := by
  cases L with
  | nil => exact absurd rfl h
  | cons a l =>
    have := minS_mn l a
    show some (mn (dO a) (l.map dO)) = _
    rw [this]
theorem minS_sort {L : List (List Str)} (h : L ≠ []) : ∃ t, sortD (L.map dO) = dO (minS L) :: t := by
  cases L with
  | nil => exact absurd rfl h
  | cons a l =>
    obtain ⟨t, e⟩ := sort_head (l.map dO) (dO a)
    exact ⟨t, by rw [List.map_cons, e, minS_mn]⟩
theorem minS_mem : ∀ {L : List (List Str)}, L ≠ [] → minS L ∈ L := by
  intro L h
  cases L with
  | nil => exact absurd rfl h
  | cons a l =>
    clear h
    induction l generalizing a with
    | nil => exact List.mem_cons_self
    | cons b l ih =>
      show l.foldl _ _ ∈ _
      by_cases q : PySem.W.dataLt (toPy (dO b)) (toPy (dO a)) = true
      · simp only [q, if_true]
        exact List.mem_cons_of_mem _ (ih b)
      · rw [Bool.not_eq_true] at q
        simp only [q, Bool.false_eq_true, if_false]
        rcases List.mem_cons.mp (ih a) with e | e
        · rw [show l.foldl _ a = a from e]; exact List.mem_cons_self
        · exact List.mem_cons_of_mem _ (List.mem_cons_of_mem _ e)
theorem lst_app (r : List Str) (o : Str) : lst (r ++ [o]) = o := by simp [lst]
theorem lst_eq {r : List Str} (h : r ≠ []) : r.dropLast ++ [lst r] = r := by
  rcases List.eq_nil_or_concat r with rfl | ⟨i, x, rfl⟩
  · exact absurd rfl h
  · simp [lst]
structure Wk (us : Str → List Str) (N : List Str) (a : Str) (r : List Str) : Prop where
  ne : r ≠ []
  frm : ∀ x ∈ r, x = a ∨ Rch us a x
  to : ∀ x ∈ r, x = lst r ∨ Rch us x (lst r)
  inN : ∀ x ∈ r, x ∈ N
section
variable {N : List Str} {us : Str → List Str} {a : Str}
theorem Wk.lm {r : List Str} (h : r ≠ []) : lst r ∈ r := by
  have := lst_eq h
  rw [← this]
  simp [lst]
theorem Wk.ext (hu : UsOk N us) {r : List Str} (h : Wk us N a r) {o : Str} (ho : o ∈ us (lst r)) : Wk us N a (r ++ [o]) := by
  have lm := Wk.lm h.ne
  refine ⟨by simp, fun x hx => ?_, fun x hx => ?_, fun x hx => ?_⟩
  · rcases List.mem_append.mp hx with hx | hx
    · exact h.frm x hx
    · rw [List.mem_singleton.mp hx]
      rcases h.frm _ lm with e | e
      · rw [e] at ho; exact .inr (.base ho)
      · exact .inr (.step e ho)
  · rw [lst_app]
    rcases List.mem_append.mp hx with hx | hx
    · rcases h.to x hx with e | e
      · rw [← e] at ho; exact .inr (.base ho)
      · exact .inr (.step e ho)
    · exact .inl (List.mem_singleton.mp hx)
  · rcases List.mem_append.mp hx with hx | hx
    · exact h.inN x hx
    · rw [List.mem_singleton.mp hx]; exact hu.sub _ (h.inN _ lm) _ ho
theorem longer_wk (hu : UsOk N us) {R : List (List Str)} {t : Nat} (h : ∀ r ∈ R, Wk us N a r ∧ r.length = t + 1 ∧ r.Nodup) : ∀ r ∈ longer us R, Wk us N a r ∧ r.length = t + 2 ∧ r.dropLast.Nodup := by
  intro r hr
  obtain ⟨q, hq, hr⟩ := List.mem_flatMap.mp hr
  obtain ⟨o, ho, rfl⟩ := List.mem_map.mp hr
  obtain ⟨a1, a2, a3⟩ := h q hq
  exact ⟨a1.ext hu ho, by simp [a2], by simpa using a3⟩
theorem Ls_wk (hu : UsOk N us) (ha : a ∈ N) : ∀ t, ∀ r ∈ Ls us a t, Wk us N a r ∧ r.length = t + 1 ∧ r.Nodup
  | 0, r, hr => by
    have : r = [a] := by simpa [Ls] using hr
    subst this
    refine ⟨⟨by simp, by simp, fun x hx => .inl ?_, by simpa using ha⟩, rfl, by simp⟩
    rw [List.mem_singleton.mp hx]; rfl
  | t + 1, r, hr => by
    obtain ⟨hr, hp⟩ := List.mem_filter.mp hr
    obtain ⟨w, l, nd⟩ := longer_wk hu (Ls_wk hu ha t) r hr
    refine ⟨w, l, ?_⟩
    have e := lst_eq w.ne
    have nr : lst r ∉ r.dropLast := by simpa [rep] using hp
    rw [← e, List.nodup_append]
    exact ⟨nd, by simp, fun x hx y hy q => nr (by rw [List.mem_singleton] at hy; rw [← hy, ← q]; exact hx)⟩
theorem longer_len (hu : UsOk N us) {R : List (List Str)} (h : ∀ r ∈ R, lst r ∈ N) : (longer us R).length ≤ 7 * R.length := by
  unfold longer
  induction R with
  | nil => simp
  | cons r R ih =>
    have a := ih fun x hx => h x (List.mem_cons_of_mem _ hx)
    have b := hu.ul _ (h r List.mem_cons_self)
    simp only [List.flatMap_cons, List.length_append, List.length_map, List.length_cons]
    omega
theorem Ls_len (hu : UsOk N us) (ha : a ∈ N) : ∀ t, (Ls us a t).length ≤ 7 ^ t
  | 0 => by simp [Ls]
  | t + 1 => by
    have h1 := longer_len hu (R := Ls us a t) fun r hr => by
      obtain ⟨w, _, _⟩ := Ls_wk hu ha t r hr
      exact w.inN _ (Wk.lm w.ne)
    have h2 := Ls_len hu ha t
    have h3 : (Ls us a (t + 1)).length ≤ (longer us (Ls us a t)).length := List.length_filter_le _ _
    rw [Nat.pow_succ]
    omega
theorem longer_small (hu : UsOk N us) (ha : a ∈ N) {t : Nat} (ht : t ≤ 6) : (longer us (Ls us a t)).length < LIM := by
  have h1 := longer_len hu (R := Ls us a t) fun r hr => by
    obtain ⟨w, _, _⟩ := Ls_wk hu ha t r hr
    exact w.inN _ (Wk.lm w.ne)
  have h2 := Ls_len hu ha t
  have h3 : 7 ^ t ≤ 7 ^ 6 := Nat.pow_le_pow_right (by decide) ht
  have h4 : LIM = 1000000 := rfl
  have h5 : (7 : Nat) ^ 6 = 117649 := by decide
  omega
theorem Ls_end (hu : UsOk N us) (ha : a ∈ N) {t : Nat} (ht : N.length ≤ t) : Ls us a t = [] := by
  refine List.eq_nil_iff_forall_not_mem.mpr fun r hr => ?_
  obtain ⟨w, l, nd⟩ := Ls_wk hu ha t r hr
  have := nodup_le nd w.inN
  omega
theorem Ls_nil : ∀ {t k : Nat}, Ls us a t = [] → Ls us a (t + k) = []
  | t, 0, h => h
  | t, k + 1, h => by
    have := Ls_nil (k := k) h
    show (longer us (Ls us a (t + k))).filter _ = []
    rw [this]; rfl
theorem bst_none : ∀ {n : Nat}, (∀ t < n, Gs us a t = []) → bst us a n = none
  | 0, _ => rfl
  | n + 1, h => by
    have := bst_none (n := n) fun t ht => h t (by omega)
    unfold bst
    rw [if_neg (fun q => q.2 (h n (by omega))), this]
theorem bst_some {t : Nat} (h0 : ∀ s < t, Gs us a s = []) (h1 : Gs us a t ≠ []) : ∀ k, bst us a (t + 1 + k) = some (minS (Gs us a t))
  | 0 => by
    have := bst_none h0
    show bst us a (t + 1) = _
    unfold bst
    rw [if_pos ⟨this, h1⟩]
  | k + 1 => by
    have ih := bst_some h0 h1 k
    show bst us a (t + 1 + k + 1) = _
    unfold bst
    rw [ih, if_neg (fun q => by cases q.1)]
theorem bst_all {n : Nat} (h : bst us a n = none) : ∀ t < n, Gs us a t = [] := by
  intro t
  induction t using Nat.strongRecOn with
  | _ t ih =>
    intro ht
    exact Classical.byContradiction fun q => by
      have := bst_some (a := a) (t := t) (fun s hs => ih s hs (by omega)) q (n - t - 1)
      have e : t + 1 + (n - t - 1) = n := by omega
      rw [e, h] at this
      cases this
theorem Ls_all {t : Nat} (h : Gs us a t = []) : Ls us a (t + 1) = longer us (Ls us a t) := by
  unfold Gs at h
  show (longer us (Ls us a t)).filter _ = _
  refine List.filter_eq_self.mpr fun r hr => ?_
  cases q : rep r with
  | false => rfl
  | true =>
    have : r ∈ (longer us (Ls us a t)).filter rep := List.mem_filter.mpr ⟨hr, q⟩
    rw [h] at this; cases this
/-! ### rings that are led to -/
def Cyc (us : Str → List Str) (a : Str) : Prop := ∃ o, (o = a ∨ Rch us a o) ∧ Rch us o o
theorem cyc_of {n : Nat} (hu : UsOk N us) (ha : a ∈ N) (h : bst us a n ≠ none) : Cyc us a := by
  obtain ⟨t, ht, hg⟩ : ∃ t, t < n ∧ Gs us a t ≠ [] := Classical.byContradiction fun q => h (bst_none fun t ht => Classical.byContradiction fun z => q ⟨t, ht, z⟩)
  obtain ⟨r, hr⟩ := List.exists_mem_of_ne_nil _ hg
  obtain ⟨hr, hp⟩ := List.mem_filter.mp hr
  obtain ⟨q, hq, hr⟩ := List.mem_flatMap.mp hr
  obtain ⟨o, ho, rfl⟩ := List.mem_map.mp hr
  obtain ⟨w, _, _⟩ := Ls_wk hu ha t q hq
  have hm : o ∈ q := by
    have : lst (q ++ [o]) ∈ (q ++ [o]).dropLast := of_decide_eq_true hp
    rw [lst_app] at this
    simpa using this
  refine ⟨o, w.frm o hm, ?_⟩
  rcases w.to o hm with e | e
  · rw [← e] at ho; exact .base ho
  · exact .step e ho
theorem cyc_to (hu : UsOk N us) (ha : a ∈ N) (h : Cyc us a) : bst us a N.length ≠ none := by
  intro q
  have hG := bst_all q
  have key : ∀ t, t ≤ N.length → ∃ r ∈ Ls us a t, Cyc us (lst r) := by
    intro t
    induction t with
    | zero => intro _; exact ⟨[a], by simp [Ls], h⟩
    | succ t ih =>
      intro ht
      obtain ⟨r, hr, o, ho, hc⟩ := ih (by omega)
      rw [Ls_all (hG t (by omega))]
      have hd : ∃ y ∈ us (lst r), Cyc us y := by
        rcases ho with rfl | ho
        · obtain ⟨y, hy, e | e⟩ := hc.head
          · exact ⟨y, hy, _, .inl e.symm, hc⟩
          · exact ⟨y, hy, _, .inr e, hc⟩
        · obtain ⟨y, hy, e | e⟩ := ho.head
          · exact ⟨y, hy, o, .inl e.symm, hc⟩
          · exact ⟨y, hy, o, .inr e, hc⟩
      obtain ⟨y, hy, hc'⟩ := hd
      exact ⟨r ++ [y], List.mem_flatMap.mpr ⟨r, hr, List.mem_map.mpr ⟨y, hy, rfl⟩⟩, by rw [lst_app]; exact hc'⟩
  obtain ⟨r, hr, _⟩ := key N.length (Nat.le_refl _)
  rw [Ls_end hu ha (Nat.le_refl _)] at hr
  cases hr
/-! ### what is met early -/
def Good (us : Str → List Str) (a : Str) (p : Str × Str) : Prop := (p.1 = a ∨ Rch us a p.1) ∧ p.2 ∈ us p.1 ∧ (p.2 = p.1 ∨ Rch us p.2 p.1)
theorem beg_good : ∀ (k : Nat) (nm : Str) (line : List Str) (s : Bg), (nm = a ∨ Rch us a nm) → (∀ x ∈ line, Rch us x nm) → (∀ p ∈ s.2, Good us a p) → ∀ p ∈ (beg us k nm line s).2, Good us a p
  | 0, nm, line, s, _, _, h => h
  | k + 1, nm, line, s, hn, hl, h => by
    unfold beg
    split
    · exact h
    · have key : ∀ (os : List Str) (s : Bg), (∀ o ∈ os, o ∈ us nm) → (∀ p ∈ s.2, Good us a p) → ∀ p ∈ (os.foldl (fun s o => beg us k o (line ++ [nm]) (s.1, early line nm o s.2)) s).2, Good us a p := by
        intro os
        induction os with
        | nil => intro s _ h; exact h
        | cons o os ih =>
          intro s ho h
          rw [List.foldl_cons]
          have hou := ho o List.mem_cons_self
          refine ih _ (fun x hx => ho x (List.mem_cons_of_mem _ hx)) (beg_good k o (line ++ [nm]) _ ?_ ?_ ?_)
          · rcases hn with rfl | hn
            · exact .inr (.base hou)
            · exact .inr (.step hn hou)
          · intro x hx
            rcases List.mem_append.mp hx with hx | hx
            · exact .step (hl x hx) hou
            · rw [List.mem_singleton.mp hx]; exact .base hou
          · intro p hp
            have hp : p ∈ early line nm o s.2 := hp
            unfold early at hp
            split at hp
            · rename_i z
              rcases List.mem_append.mp hp with hp | hp
              · exact h p hp
              · rw [List.mem_singleton.mp hp]
                refine ⟨hn, hou, ?_⟩
                rcases z with z | z
                · exact .inr (hl o z)
                · exact .inl z
            · exact h p hp
      exact key (us nm) s (fun _ h => h) h
theorem early_cyc (hu : UsOk N us) (ha : a ∈ N) : (begs us [a] ([], [])).2 ≠ [] ↔ Cyc us a := by
  constructor
  · intro h
    obtain ⟨p, hp⟩ := List.exists_mem_of_ne_nil _ h
    obtain ⟨h1, h2, h3⟩ := beg_good (us := us) (a := a) 9 a [] ([], []) (.inl rfl) (by simp) (by simp) p hp
    refine ⟨p.2, .inr ?_, ?_⟩
    · rcases h1 with e | e
      · rw [e] at h2; exact .base h2
      · exact .step e h2
    · rcases h3 with e | e
      · rw [← e] at h2; exact .base h2
      · exact .step e h2
  · rintro ⟨o, ho, hc⟩ he
    obtain ⟨bp, ba⟩ := begs_post hu [a] ([], []) (by simpa using ha) (iv_nil N us)
    generalize begs us [a] ([], []) = b at *
    have met : ∀ i n, b.1[i]? = some n → ∀ x ∈ us n, x ∈ b.1.take i := fun i n hn x hx => by
      rcases bp.iv.met i n hn x hx with q | q
      · exact q
      · rw [he] at q; cases q
    have low : ∀ {x y : Str}, Rch us x y → ∀ i : Nat, b.1[i]? = some x → ∃ j : Nat, j < i ∧ b.1[j]? = some y := by
      intro x y h
      induction h with
      | base q =>
        intro i hi
        obtain ⟨j, hj⟩ := List.mem_iff_getElem?.mp (met i _ hi _ q)
        rw [List.getElem?_take] at hj
        split at hj
        · exact ⟨j, by assumption, hj⟩
        · cases hj
      | step _ q ih =>
        intro i hi
        obtain ⟨j, hj, ej⟩ := ih i hi
        obtain ⟨k, hk⟩ := List.mem_iff_getElem?.mp (met j _ ej _ q)
        rw [List.getElem?_take] at hk
        split at hk
        · exact ⟨k, by omega, hk⟩
        · cases hk
    have ha' := ba a (by simp)
    obtain ⟨i, hi⟩ := List.mem_iff_getElem?.mp ha'
    have hoi : ∃ j : Nat, b.1[j]? = some o := by
      rcases ho with rfl | ho
      · exact ⟨i, hi⟩
      · obtain ⟨j, _, ej⟩ := low ho i hi
        exact ⟨j, ej⟩
    obtain ⟨j, ej⟩ := hoi
    obtain ⟨k, hk, ek⟩ := low hc j ej
    have := nodup_inj bp.iv.nd ej ek
    omega
end
end K86

set_option maxHeartbeats 4000000
namespace K86
open DL PySem PySem.Spec PyProof.Rows L2 H Hr
theorem cut_ini (ds : List D) : DL.cutD ds none (some (-1 : Int)) = ds.dropLast := by
  unfold DL.cutD
  have e : HT.sIx ds.length ds.length (some (-1 : Int)) = ds.length - 1 := by
    unfold HT.sIx
    simp
    omega
  have e0 : HT.sIx ds.length 0 none = 0 := rfl
  rw [e, e0, List.dropLast_eq_take]
  simp
theorem at_last (ds : List D) (d : D) : L2.atI (ds ++ [d]) (-1) = some d := by
  have h : L2.ixN (ds ++ [d]).length (-1) = some ds.length := by
    unfold L2.ixN
    rw [if_neg (by omega), if_pos (by simp; omega)]
    simp
    omega
  unfold L2.atI
  rw [h]
  simp
section
variable {ρ : DEnv} {S : Sto} {i : Nat} {r : List Str}
theorem last_ok (h : ρ[i]? = some (some (dO r))) (hn : r ≠ []) : e2 ixF (eVar i) (e1 negF (eC (.int 1))) ρ S = .ok (.str (lst r)) S := by
  refine e2_ok (x := dO r) (y := .int (-1)) (S1 := S) (var_ok h) (by rfl) ?_
  have e := lst_eq hn
  show L2.atI (r.map D.str) (-1) = some (.str (lst r))
  conv => lhs; rw [← e, List.map_append]
  exact at_last _ _
theorem ini_ok (h : ρ[i]? = some (some (dO r))) : eSl slF (eVar i) (eC .non) (e1 ptF (e1 negF (eC (.int 1)))) ρ S = .ok (.tup (r.dropLast.map .str)) S := by
  have v : eVar i ρ S = .ok (dO r) S := var_ok h
  have c := cut_ini (r.map D.str)
  have d : deref S (dO r) = .tup (r.map .str) := rfl
  have e : r.dropLast.map D.str = (r.map D.str).dropLast := by rw [List.map_dropLast]
  have ng : e1 ptF (e1 negF (eC (.int 1))) ρ S = .ok (.int (-1)) S := by rfl
  simp only [eSl, v, Res.bind_ok, eC, optI, ng, d, slF, c, Res.ofOpt_some, e]
theorem rep_ok (h : ρ[i]? = some (some (dO r))) (hn : r ≠ []) : e2 inF (e2 ixF (eVar i) (e1 negF (eC (.int 1)))) (eSl slF (eVar i) (eC .non) (e1 ptF (e1 negF (eC (.int 1))))) ρ S = .ok (.bl (rep r)) S :=
  e2_ok (x := .str (lst r)) (y := .tup (r.dropLast.map .str)) (S1 := S) (last_ok h hn) (ini_ok h) (by rw [deref_str, deref_tup, inF_tup]; rfl)
theorem nrep_ok (h : ρ[i]? = some (some (dO r))) (hn : r ≠ []) : e2 notInF (e2 ixF (eVar i) (e1 negF (eC (.int 1)))) (eSl slF (eVar i) (eC .non) (e1 ptF (e1 negF (eC (.int 1))))) ρ S = .ok (.bl (!rep r)) S :=
  e2_ok (x := .str (lst r)) (y := .tup (r.dropLast.map .str)) (S1 := S) (last_ok h hn) (ini_ok h) (by rw [deref_str, deref_tup, notInF_tup]; rfl)
end
section
variable {S : Sto} {cs : List Cl} {h : Nat} {a : Str}
theorem sh_O {L : List (List Str)} (hL : ∀ r ∈ L, ∀ x ∈ r, okD 0 (.str x) = true) : shD (.lst (L.map dO)) = true := okD_sh (okD_lst (n := 1) fun d hd => by
  obtain ⟨r, hr, rfl⟩ := List.mem_map.mp hd
  exact op_sh (hL r hr)) (by decide)
theorem okN (hO : HouseOk cs) {x : Str} (hx : x ∈ cs.map Cl.n) : okD 0 (.str x) = true := by
  obtain ⟨c, hc, rfl⟩ := List.mem_map.mp hx
  obtain ⟨i, hi⟩ := List.mem_iff_getElem?.mp hc
  exact (hO.cl i c hi).w.ok
theorem minT_O {L : List (List Str)} (hl : L.length < LIM) (hne : L ≠ []) : minTF (.lst (L.map dO)) = some (dO (minS L)) := by
  have m0 : minLF (.lst (L.map dO)) = none := by
    cases L with
    | nil => exact absurd rfl hne
    | cons r L => rfl
  have ok : minOk (L.map dO) = true := by
    unfold minOk
    simp only [Bool.and_eq_true, decide_eq_true_eq, List.all_eq_true]
    refine ⟨⟨?_, ?_⟩, by rw [List.length_map]; exact hl⟩
    · intro d hd
      obtain ⟨r, _, rfl⟩ := List.mem_map.mp hd
      show (r.map D.str).all scT = true
      rw [List.all_eq_true]
      intro d hd
      obtain ⟨x, _, rfl⟩ := List.mem_map.mp hd
      rfl
    · intro d hd e he
      obtain ⟨x, _, rfl⟩ := List.mem_map.mp hd
      obtain ⟨y, _, rfl⟩ := List.mem_map.mp he
      simp only [dO, toPy, PySem.W.alike]
      exact alike_O x y
  unfold minTF
  rw [m0]
  simp only [ok, if_true]
  exact minS_dd hne
def rtB : SF := (sSeq (sSet 3 (eLc2 [6, 5] [5] (iSeq (eVar 2)) (gtName 6) eYes (iSeq (eCall f_used_by (aCons (eVar 0) (aCons (e2 ixF (eVar 6) (e1 negF (eC (.int 1)))) aNil)))) (gtName 5) eYes (eTup (aStar (eVar 6) (aCons (eVar 5) aNil)))))
  (sSeq (sSet 4 (eLc [6] (iSeq (eVar 3)) (gtName 6) (e2 inF (e2 ixF (eVar 6) (e1 negF (eC (.int 1)))) (eSl slF (eVar 6) (eC .non) (e1 ptF (e1 negF (eC (.int 1)))))) (eVar 6)))
  (sSeq (sIf (e2 neF (eVar 4) (eLst aNil)) (sRet (eN (f1 minTF) (aCons (eVar 4) aNil))) sNext)
  (sSet 2 (eVar 3)))))
theorem ringto_ok (hh : HAt S h cs) (hO : HouseOk cs) (hu : UsOk (cs.map Cl.n) (uses cs)) (ha : a ∈ cs.map Cl.n) :
    f_ring_to [.obj h, .str a] S = .ok (match bst (uses cs) a (cs.map Cl.n).length with | none => .non | some r => dO r) S := by
  have n7 := hu.len
  have key := while_ok (fc := e2 neF (eVar 2) (eLst aNil)) (fb := rtB)
    (fun m ρ T => ∃ (t : Nat) (x3 x4 x5 x6 : Option D), ρ = [some (.obj h), some (.str a), some (.lst ((Ls (uses cs) a t).map dO)), x3, x4, x5, x6] ∧ T = S ∧ t + m = (cs.map Cl.n).length ∧ ∀ s < t, Gs (uses cs) a s = [])
    (fun ρ T => T = S ∧ bst (uses cs) a (cs.map Cl.n).length = none)
    (fun d T => T = S ∧ ∃ r, d = dO r ∧ bst (uses cs) a (cs.map Cl.n).length = some r) (by
      rintro m ρ T ⟨t, x3, x4, x5, x6, rfl, rfl, hm, hG⟩
      have hW := Ls_wk hu ha t
      have ne : e2 neF (eVar 2) (eLst aNil) [some (.obj h), some (.str a), some (.lst ((Ls (uses cs) a t).map dO)), x3, x4, x5, x6] T = .ok (.bl (!((Ls (uses cs) a t).map dO).isEmpty)) T := e2_ok (x := .lst ((Ls (uses cs) a t).map dO)) (y := .lst []) (S1 := T) (var_ok rfl) (lst_ok nil_ok (by simp)) (by
        rw [deref_lst, deref_lst]
        exact ne_nilG (sh_O fun r hr x hx => okN hO ((hW r hr).1.inN x hx)))
      by_cases q : Ls (uses cs) a t = []
      · left
        rw [q] at ne
        refine ⟨by rw [q]; exact ne, rfl, bst_none fun s hs => ?_⟩
        by_cases w : s < t
        · exact hG s w
        · have := Ls_nil (k := s - t) q
          have e : t + (s - t) = s := by omega
          rw [e] at this
          unfold Gs
          rw [this]; rfl
      · right
        have tlt : t < (cs.map Cl.n).length := Classical.byContradiction fun z => q (Ls_end hu ha (by omega))
        have ie : ((Ls (uses cs) a t).map dO).isEmpty = false := by
          cases hq : Ls (uses cs) a t with
          | nil => exact absurd hq q
          | cons r R => rfl
        rw [ie] at ne
        refine ⟨ne, ?_⟩
        have sm := longer_small hu ha (t := t) (by omega)
        have lw := longer_wk hu hW
        have l2 := lcD2_filt (g := gtName 6) (g1 := gtName 5) (fi1 := iSeq (eCall f_used_by (aCons (eVar 0) (aCons (e2 ixF (eVar 6) (e1 negF (eC (.int 1)))) aNil)))) (vs1 := [5]) (fc1 := eYes) (fe := eTup (aStar (eVar 6) (aCons (eVar 5) aNil))) (ρ := [some (.obj h), some (.str a), some (.lst ((Ls (uses cs) a t).map dO)), x3, x4, none, none]) (S := T) dO (fun r => uses cs (lst r)) D.str (fun r o => dO (r ++ [o])) (fun _ _ => true) (l := Ls (uses cs) a t) (acc := []) (by
          have : ((Ls (uses cs) a t).flatMap fun r => uses cs (lst r)).length = (longer (uses cs) (Ls (uses cs) a t)).length := by
            unfold longer
            simp [List.length_flatMap]
          rw [this]; simpa using sm) (fun r hr => by
          have w := (hW r hr).1
          obtain ⟨c, hc, ec⟩ := List.mem_map.mp (w.inN _ (Wk.lm w.ne))
          have ub := usedby_ok hh hO hc
          rw [ec] at ub
          refine ⟨_, rfl, seq_ok (call_ok (cons_ok (var_ok rfl) (cons_ok (last_ok rfl w.ne) nil_ok)) ub), fun o ho => ⟨_, rfl, rfl, fun _ => ?_⟩⟩
          have r8 : r.length ≤ 8 := by have := (hW r hr).2.1; omega
          have st : aStar (eVar 6) (aCons (eVar 5) aNil) [some (.obj h), some (.str a), some (.lst ((Ls (uses cs) a t).map dO)), x3, x4, some (.str o), some (dO r)] T = .ok ((r ++ [o]).map .str) T := by
            have v6 : eVar 6 [some (.obj h), some (.str a), some (.lst ((Ls (uses cs) a t).map dO)), x3, x4, some (.str o), some (dO r)] T = .ok (dO r) T := var_ok rfl
            have it : itemsD (deref T (dO r)) = some (r.map .str) := rfl
            have v5 : aCons (eVar 5) aNil [some (.obj h), some (.str a), some (.lst ((Ls (uses cs) a t).map dO)), x3, x4, some (.str o), some (dO r)] T = .ok [.str o] T := cons_ok (var_ok rfl) nil_ok
            simp only [aStar, v6, it, v5, List.map_append, List.map_cons, List.map_nil]
          exact tup_ok st (by simp; omega))
        have lv : ((Ls (uses cs) a t).flatMap fun r => ((uses cs (lst r)).filter fun _ => true).map fun o => dO (r ++ [o])) = (longer (uses cs) (Ls (uses cs) a t)).map dO := by
          unfold longer
          rw [List.map_flatMap]
          congr 1
          funext r
          rw [List.map_map, List.filter_eq_self.mpr (fun _ _ => rfl)]
          rfl
        rw [List.nil_append, lv] at l2
        have lf := lcD_filt (g := gtName 6) (fc := (e2 inF (e2 ixF (eVar 6) (e1 negF (eC (.int 1)))) (eSl slF (eVar 6) (eC .non) (e1 ptF (e1 negF (eC (.int 1))))))) (fe := eVar 6) (ρ := [some (.obj h), some (.str a), some (.lst ((Ls (uses cs) a t).map dO)), some (.lst ((longer (uses cs) (Ls (uses cs) a t)).map dO)), x4, x5, none]) (S := T) dO dO rep (l := longer (uses cs) (Ls (uses cs) a t)) (acc := []) (fun r hr => ⟨_, rfl, rep_ok rfl (lw r hr).1.ne, fun _ => var_ok rfl⟩)
        rw [List.nil_append] at lf
        have ls : eLc2 [6, 5] [5] (iSeq (eVar 2)) (gtName 6) eYes (iSeq (eCall f_used_by (aCons (eVar 0) (aCons (e2 ixF (eVar 6) (e1 negF (eC (.int 1)))) aNil)))) (gtName 5) eYes (eTup (aStar (eVar 6) (aCons (eVar 5) aNil))) [some (.obj h), some (.str a), some (.lst ((Ls (uses cs) a t).map dO)), x3, x4, x5, x6] T = .ok (.lst ((longer (uses cs) (Ls (uses cs) a t)).map dO)) T := by
          have sq : iSeq (eVar 2) [some (.obj h), some (.str a), some (.lst ((Ls (uses cs) a t).map dO)), x3, x4, x5, x6] T = .ok ((Ls (uses cs) a t).map dO) T := seq_ok (var_ok rfl)
          simp only [eLc2, sq]
          exact l2
        have ne4 : e2 neF (eVar 4) (eLst aNil) [some (.obj h), some (.str a), some (.lst ((Ls (uses cs) a t).map dO)), some (.lst ((longer (uses cs) (Ls (uses cs) a t)).map dO)), some (.lst ((Gs (uses cs) a t).map dO)), x5, x6] T = .ok (.bl (!((Gs (uses cs) a t).map dO).isEmpty)) T := e2_ok (x := .lst ((Gs (uses cs) a t).map dO)) (y := .lst []) (S1 := T) (var_ok rfl) (lst_ok nil_ok (by simp)) (by
          rw [deref_lst, deref_lst]
          exact ne_nilG (sh_O fun r hr x hx => okN hO ((lw r (List.mem_filter.mp hr).1).1.inN x hx)))
        have run : rtB [some (.obj h), some (.str a), some (.lst ((Ls (uses cs) a t).map dO)), x3, x4, x5, x6] T = (sSeq (sIf (e2 neF (eVar 4) (eLst aNil)) (sRet (eN (f1 minTF) (aCons (eVar 4) aNil))) sNext) (sSet 2 (eVar 3))) [some (.obj h), some (.str a), some (.lst ((Ls (uses cs) a t).map dO)), some (.lst ((longer (uses cs) (Ls (uses cs) a t)).map dO)), some (.lst ((Gs (uses cs) a t).map dO)), x5, x6] T := by
          unfold rtB
          rw [seq_set ls]
          simp only [List.set_cons_succ, List.set_cons_zero]
          rw [seq_set (lc_ok (S1 := T) (seq_ok (ds := (longer (uses cs) (Ls (uses cs) a t)).map dO) (var_ok rfl)) lf)]
          rfl
        rw [run]
        have gl : (Gs (uses cs) a t).length < LIM := Nat.lt_of_le_of_lt (List.length_filter_le _ _) sm
        by_cases g : Gs (uses cs) a t = []
        · left
          rw [g] at ne4 ⊢
          refine ⟨m - 1, _, T, by omega, by rw [seq_skip (S' := T) ne4]; exact set_ok (var_ok rfl), t + 1, some (.lst ((longer (uses cs) (Ls (uses cs) a t)).map dO)), some (.lst (([] : List (List Str)).map dO)), x5, x6, ?_, rfl, by omega, fun s hs => ?_⟩
          · rw [Ls_all g]; rfl
          · by_cases w : s = t
            · rw [w]; exact g
            · exact hG s (by omega)
        · right
          have ie4 : ((Gs (uses cs) a t).map dO).isEmpty = false := by
            cases hq : Gs (uses cs) a t with
            | nil => exact absurd hq g
            | cons r R => rfl
          rw [ie4] at ne4
          refine ⟨dO (minS (Gs (uses cs) a t)), T, seq_rt ((if_t ne4).trans (ret_ok (eN_ok (cons_ok (var_ok rfl) nil_ok) ?_))), rfl, _, rfl, ?_⟩
          · simp only [List.map_cons, List.map_nil, deref_lst, f1]
            exact minT_O gl g
          · have := bst_some hG g ((cs.map Cl.n).length - t - 1)
            have e : t + 1 + ((cs.map Cl.n).length - t - 1) = (cs.map Cl.n).length := by omega
            rw [e] at this
            exact this)
  obtain ⟨c, hc, ec⟩ := List.mem_map.mp ha
  have nc := needc_ok (S := S) hh hO hc
  rw [ec] at nc
  have go : b_ring_to [some (.obj h), some (.str a), none, none, none, none, none] S = sSeq (sWhile (e2 neF (eVar 2) (eLst aNil)) rtB) (sRet (eC .non)) [some (.obj h), some (.str a), some (.lst [dO [a]]), none, none, none, none] S := by
    unfold b_ring_to
    rw [seq_nx (expr_ok (call_ok (cons_ok (var_ok rfl) (cons_ok (var_ok rfl) nil_ok)) nc))]
    rw [seq_set (d := .lst [dO [a]]) (S' := S) (lst_ok (cons_ok (tup_ok (S1 := S) (ds := [.str a]) (cons_ok (var_ok rfl) nil_ok) (by simp)) nil_ok) (by simp))]
    rfl
  rcases key FUEL (cs.map Cl.n).length [some (.obj h), some (.str a), some (.lst [dO [a]]), none, none, none, none] S (by have : FUEL = 1000000 := rfl; omega) ⟨0, none, none, none, none, rfl, rfl, by omega, by simp⟩ with ⟨ρ', T, e, rfl, hb⟩ | ⟨d, T, e, rfl, r, rfl, hb⟩
  · rw [hb]
    refine fn_rt ?_
    show b_ring_to [some (.obj h), some (.str a), none, none, none, none, none] T = _
    rw [go]
    exact (seq_nx (ρ' := ρ') (S' := T) (show sWhile _ _ _ _ = _ from e)).trans (ret_ok c_ok)
  · rw [hb]
    refine fn_rt ?_
    show b_ring_to [some (.obj h), some (.str a), none, none, none, none, none] T = _
    rw [go]
    exact seq_rt (show sWhile _ _ _ _ = _ from e)
end
end K86

set_option maxHeartbeats 4000000
namespace K86
open DL PySem PySem.Spec PyProof.Rows L2 H Hr
def l1B : SF := (sPut 5 (eVar 7) (eCall f__law_led (aCons (eVar 2) (aCons (eVar 7) aNil))))
def l2B : SF := (sSeq (sSet 8 (eN (f1 tupF) (aCons (eN (f1 sortA) (aCons (eLc [16] (iSeq (eVar 3)) (gtName 16) (eAnd (e2 inF (eVar 16) (e2 ixF (eVar 5) (eVar 7))) (e2 inF (eVar 7) (e2 ixF (eVar 5) (eVar 16)))) (eVar 16)) aNil)) aNil)))
  (sSet 6 (e2 addF (eVar 6) (eRep (eLst (aCons (eVar 8) aNil)) (eN (f1 intF) (aCons (eAnd (e2 (iLt fun i j => decide (j < i)) (eN (f1 lenF) (aCons (eVar 8) aNil)) (eC (.int 1))) (e2 notInF (eVar 8) (eVar 6))) aNil))))))
def loB : SF := (sSet 13 (e2 addF (eVar 13) (eLc [16] (iSeq (eCall f__law_uses (aCons (eVar 2) (aCons (e2 ixF (eVar 14) (e1 negF (eC (.int 1)))) aNil)))) (gtName 16) eYes (e2 addF (eVar 14) (eTup (aCons (eVar 16) aNil))))))
def rdB : SF := (sSeq (sSet 13 (eLst aNil))
  (sSeq (sFor (iSeq (eVar 10)) (gtName 14) loB)
  (sSeq (sSet 10 (eVar 13))
  (sSeq (sSet 15 (eN (f1 sortA) (aCons (eLc [14] (iSeq (eVar 10)) (gtName 14) (e2 inF (e2 ixF (eVar 14) (e1 negF (eC (.int 1)))) (eSl slF (eVar 14) (eC .non) (e1 ptF (e1 negF (eC (.int 1)))))) (eVar 14)) aNil)))
  (sSeq (sSet 11 (eIf (eAnd (eIsN (eVar 11)) (e2 neF (eVar 15) (eLst aNil))) (e2 ixF (eVar 15) (eC (.int 0))) (eVar 11)))
  (sSet 10 (eLc [14] (iSeq (eVar 10)) (gtName 14) (e2 notInF (e2 ixF (eVar 14) (e1 negF (eC (.int 1)))) (eSl slF (eVar 14) (eC .non) (e1 ptF (e1 negF (eC (.int 1)))))) (eVar 14))))))))
def l3B : SF := (sSeq (sSet 9 (e2 neF (eLc [16] (iSeq (e2 addF (eLst (aCons (eVar 7) aNil)) (e2 ixF (eVar 5) (eVar 7)))) (gtName 16) (e2 inF (eVar 16) (e2 ixF (eVar 5) (eVar 16))) (eVar 16)) (eLst aNil)))
  (sSeq (sPar [10, 11] (aCons (eLst (aCons (eTup (aCons (eVar 7) aNil)) aNil)) (aCons (eC .non) aNil)))
  (sSeq (sFor (iRange1 (aCons (eN (f1 lenF) (aCons (eVar 3) aNil)) aNil)) (gtName 12) rdB)
  (sSeq (sIf (eOr (e2 neF (eNotN (eVar 11)) (eVar 9)) (eNot (eCall (f__law_alike 9) (aCons (eCall f_ring_to (aCons (eVar 4) (aCons (eVar 7) aNil))) (aCons (eVar 11) aNil))))) (sRet (eC (.bl false))) sNext)
  (sIf (eOr (eNot (eCall (f__law_alike 9) (aCons (eCall f_is_early (aCons (eVar 4) (aCons (eVar 7) aNil))) (aCons (eVar 9) aNil)))) (e2 neF (e2 neF (eCall f_met_early (aCons (eVar 4) (aCons (eLst (aCons (eVar 7) aNil)) aNil))) (eLst aNil)) (eVar 9))) (sRet (eC (.bl false))) sNext)))))
abbrev env (x0 : Option D) (cs : List Cl) (x5 x6 x7 x8 x9 x10 x11 x12 x13 x14 x15 x16 : Option D) : DEnv := [x0, some (.obj 0), some (dCs cs), some (.lst ((cs.map Cl.n).map .str)), some (.obj 1), x5, x6, x7, x8, x9, x10, x11, x12, x13, x14, x15, x16]
def ldW (p : Str × List Str) : D := .lst (p.2.map .str)
def dB : Option (List Str) → D
  | none => .non
  | some r => dO r
theorem isN_dB {f : EF} {ρ : DEnv} {S : Sto} {v : Option (List Str)} (h : f ρ S = .ok (dB v) S) : eIsN f ρ S = .ok (.bl v.isNone) S := by
  simp only [eIsN, h, Res.bind_ok]
  cases v <;> rfl
theorem notN_dB {f : EF} {ρ : DEnv} {S : Sto} {v : Option (List Str)} (h : f ρ S = .ok (dB v) S) : eNotN f ρ S = .ok (.bl v.isSome) S := by
  simp only [eNotN, h, Res.bind_ok]
  cases v <;> rfl
theorem ne_bl (b : Bool) : neF (.bl b) (.bl b) = some (.bl false) := by cases b <;> kernel_rfl
open Classical in
noncomputable def cyB (us : Str → List Str) (a : Str) : Bool := decide (Cyc us a)
theorem cyB_t {us : Str → List Str} {a : Str} (h : Cyc us a) : cyB us a = true := @decide_eq_true _ (Classical.propDecidable _) h
theorem cyB_f {us : Str → List Str} {a : Str} (h : ¬ Cyc us a) : cyB us a = false := @decide_eq_false _ (Classical.propDecidable _) h
section
variable {x0 : Option D} {S : Sto} {cs : List Cl}
theorem leds_ok (hO : HouseOk cs) (hu : UsOk (cs.map Cl.n) (uses cs)) {x6 x8 x9 x10 x11 x12 x13 x14 x15 x16 : Option D} : ∀ (l : List Str) (acc : List (Str × List Str)) (x7 : Option D), (acc.map (·.1) ++ l).Nodup → (∀ n ∈ l, n ∈ cs.map Cl.n) → acc.length + l.length ≤ 100 →
    ∃ (Lp : List (Str × List Str)) (x7' : Option D), forD (gtName 7) l1B (l.map .str) (env x0 cs (some (dk (·.1) ldW acc)) x6 x7 x8 x9 x10 x11 x12 x13 x14 x15 x16) S = .nx (env x0 cs (some (dk (·.1) ldW (acc ++ Lp))) x6 x7' x8 x9 x10 x11 x12 x13 x14 x15 x16) S ∧ LpOk (uses cs) l Lp ∧ ∀ p ∈ Lp, p.2.length ≤ 7
  | [], acc, x7, _, _, _ => ⟨[], x7, by simp [forD], ⟨rfl, by simp⟩, by simp⟩
  | n :: l, acc, x7, nd, hl, hn => by
    obtain ⟨G, eG, lG, hG⟩ := lawled_ok (S := S) hO hu (hl n List.mem_cons_self)
    have nin : ∀ b ∈ acc, b.1 ≠ n := fun b hb q => by
      rw [List.nodup_append] at nd
      exact nd.2.2 b.1 (List.mem_map_of_mem hb) n List.mem_cons_self q
    simp only [List.length_cons] at hn
    have put := put_txt (α := Str × List Str) (·.1) ldW (L := acc) (a := (n, G)) nin (lim_le (by omega))
    obtain ⟨Lp, x7', e, hLp, hl7⟩ := leds_ok hO hu (x6 := x6) (x8 := x8) (x9 := x9) (x10 := x10) (x11 := x11) (x12 := x12) (x13 := x13) (x14 := x14) (x15 := x15) (x16 := x16) l (acc ++ [(n, G)]) (some (.str n)) (by simpa using nd) (fun m hm => hl m (List.mem_cons_of_mem _ hm)) (by simp; omega)
    refine ⟨(n, G) :: Lp, x7', ?_, ⟨by simp [hLp.nm], fun p hp => ?_⟩, fun p hp => ?_⟩
    · have bd : l1B (env x0 cs (some (dk (·.1) ldW acc)) x6 (some (.str n)) x8 x9 x10 x11 x12 x13 x14 x15 x16) S = .nx (env x0 cs (some (dk (·.1) ldW (acc ++ [(n, G)]))) x6 (some (.str n)) x8 x9 x10 x11 x12 x13 x14 x15 x16) S := by
        unfold l1B
        exact (sput_ok (v := .lst (G.map .str)) (k := .str n) (d := dk (·.1) ldW acc) (d' := dk (·.1) ldW (acc ++ [(n, G)])) (S2 := S) (call_ok (cons_ok (var_ok rfl) (cons_ok (var_ok rfl) nil_ok)) eG) rfl (var_ok rfl) put).trans rfl
      have e2 : acc ++ (n, G) :: Lp = acc ++ [(n, G)] ++ Lp := by simp
      rw [e2]
      exact (forD_nx (ρ1 := env x0 cs (some (dk (·.1) ldW acc)) x6 (some (.str n)) x8 x9 x10 x11 x12 x13 x14 x15 x16) rfl bd).trans e
    · rcases List.mem_cons.mp hp with rfl | hp
      · exact hG
      · exact hLp.ok p hp
    · rcases List.mem_cons.mp hp with rfl | hp
      · exact lG
      · exact hl7 p hp
variable {Lp : List (Str × List Str)}
theorem duel_ok (hO : HouseOk cs) (hu : UsOk (cs.map Cl.n) (uses cs)) (hL : LpOk (uses cs) (cs.map Cl.n) Lp) {x9 x10 x11 x12 x13 x14 x15 x16 : Option D} : ∀ (l : List Str) (acc : List (List Str)) (x7 x8 : Option D), (∀ n ∈ l, n ∈ cs.map Cl.n) → (∀ r ∈ acc, ∀ x ∈ r, x ∈ cs.map Cl.n) → acc.length + l.length ≤ 100 →
    ∃ x7' x8', forD (gtName 7) l2B (l.map .str) (env x0 cs (some (dk (·.1) ldW Lp)) (some (.lst (acc.map dO))) x7 x8 x9 x10 x11 x12 x13 x14 x15 x16) S = .nx (env x0 cs (some (dk (·.1) ldW Lp)) (some (.lst (((l.map (rg (uses cs) (cs.map Cl.n))).foldl addG acc).map dO))) x7' x8' x9 x10 x11 x12 x13 x14 x15 x16) S
  | [], acc, x7, x8, _, _, _ => ⟨x7, x8, rfl⟩
  | n :: l, acc, x7, x8, hl, ha, hs => by
    have hn := hl n List.mem_cons_self
    obtain ⟨p, fp, dp⟩ := hL.at hu.nd hn
    have al := addG_len acc (rg (uses cs) (cs.map Cl.n) n)
    simp only [List.length_cons] at hs
    have rN : ∀ x ∈ rg (uses cs) (cs.map Cl.n) n, x ∈ cs.map Cl.n := fun x hx => by
      unfold rg at hx
      exact (List.mem_filter.mp (srtS_mem.mp hx)).1
    obtain ⟨x7', x8', e⟩ := duel_ok hO hu hL (x9 := x9) (x10 := x10) (x11 := x11) (x12 := x12) (x13 := x13) (x14 := x14) (x15 := x15) (x16 := x16) l (addG acc (rg (uses cs) (cs.map Cl.n) n)) (some (.str n)) (some (dO (rg (uses cs) (cs.map Cl.n) n))) (fun m hm => hl m (List.mem_cons_of_mem _ hm)) (addG_all ha fun _ => rN) (by omega)
    refine ⟨x7', x8', ?_⟩
    rw [show (n :: l).map (rg (uses cs) (cs.map Cl.n)) = rg (uses cs) (cs.map Cl.n) n :: l.map (rg (uses cs) (cs.map Cl.n)) from rfl, List.foldl_cons]
    have rl := ring_lc (S := S) (us := uses cs) hu.len (fi := iSeq (eVar 3)) (g := gtName 16) (fa := e2 inF (eVar 16) (e2 ixF (eVar 5) (eVar 7))) (fb := e2 inF (eVar 7) (e2 ixF (eVar 5) (eVar 16))) (fe := eVar 16) (vs := [16]) (n := n) (ρ := env x0 cs (some (dk (·.1) ldW Lp)) (some (.lst (acc.map dO))) (some (.str n)) x8 x9 x10 x11 x12 x13 x14 x15 x16) (seq_ok (var_ok rfl)) (fun o ho => by
      obtain ⟨q, fq, dq⟩ := hL.at hu.nd ho
      refine ⟨_, rfl, ?_, ?_, var_ok rfl⟩
      · refine e2_ok (x := .str o) (y := ldW p) (S1 := S) (var_ok rfl) (e2_ok (x := dk (α := Str × List Str) (·.1) ldW Lp) (y := .str n) (S1 := S) (var_ok rfl) (var_ok rfl) (ix_txt (α := Str × List Str) (·.1) ldW fp)) ?_
        rw [← dp o]; exact inF_lst p.2 o
      · refine e2_ok (x := .str n) (y := ldW q) (S1 := S) (var_ok rfl) (e2_ok (x := dk (α := Str × List Str) (·.1) ldW Lp) (y := .str o) (S1 := S) (var_ok rfl) (var_ok rfl) (ix_txt (α := Str × List Str) (·.1) ldW fq)) ?_
        rw [← dq n]; exact inF_lst q.2 n)
    generalize hr : rg (uses cs) (cs.map Cl.n) n = r at *
    have ln := lenT_ok (f := eVar 8) (ρ := env x0 cs (some (dk (·.1) ldW Lp)) (some (.lst (acc.map dO))) (some (.str n)) (some (dO r)) x9 x10 x11 x12 x13 x14 x15 x16) (S := S) (S1 := S) (ds := r.map .str) (var_ok rfl)
    rw [List.length_map] at ln
    have gt : e2 (iLt fun i j => decide (j < i)) (eN (f1 lenF) (aCons (eVar 8) aNil)) (eC (.int 1)) (env x0 cs (some (dk (·.1) ldW Lp)) (some (.lst (acc.map dO))) (some (.str n)) (some (dO r)) x9 x10 x11 x12 x13 x14 x15 x16) S = .ok (.bl (decide ((1 : Int) < (r.length : Int)))) S := e2_ok (x := .int r.length) (y := .int 1) (S1 := S) ln c_ok rfl
    have ni : e2 notInF (eVar 8) (eVar 6) (env x0 cs (some (dk (·.1) ldW Lp)) (some (.lst (acc.map dO))) (some (.str n)) (some (dO r)) x9 x10 x11 x12 x13 x14 x15 x16) S = .ok (.bl (!decide (r ∈ acc))) S := e2_ok (x := dO r) (y := .lst (acc.map dO)) (S1 := S) (var_ok rfl) (var_ok rfl) (by
      have is := inSq_op (o := r) (l := acc) (fun k hk => okN hO (rN k hk)) (fun q hq k hk => okN hO (ha q hq k hk))
      have dd : deref S (dO r) = dO r := rfl
      rw [dd, deref_lst]
      simp only [notInF, inB, is, Option.map_some])
    obtain ⟨b, eb, hb⟩ : ∃ b : Bool, eAnd (e2 (iLt fun i j => decide (j < i)) (eN (f1 lenF) (aCons (eVar 8) aNil)) (eC (.int 1))) (e2 notInF (eVar 8) (eVar 6)) (env x0 cs (some (dk (·.1) ldW Lp)) (some (.lst (acc.map dO))) (some (.str n)) (some (dO r)) x9 x10 x11 x12 x13 x14 x15 x16) S = .ok (.bl b) S ∧ addG acc r = acc ++ List.replicate b.toNat r := by
      by_cases q : 1 < r.length
      · rw [decide_eq_true (by omega)] at gt
        refine ⟨_, and_tt gt ni, ?_⟩
        unfold addG addR
        rw [if_pos q]
        by_cases w : r ∈ acc
        · simp [w]
        · simp [w]
      · rw [decide_eq_false (by omega)] at gt
        refine ⟨_, and_ff gt, ?_⟩
        unfold addG
        rw [if_neg q]; simp
    have rp : eRep (eLst (aCons (eVar 8) aNil)) (eN (f1 intF) (aCons (eAnd (e2 (iLt fun i j => decide (j < i)) (eN (f1 lenF) (aCons (eVar 8) aNil)) (eC (.int 1))) (e2 notInF (eVar 8) (eVar 6))) aNil)) (env x0 cs (some (dk (·.1) ldW Lp)) (some (.lst (acc.map dO))) (some (.str n)) (some (dO r)) x9 x10 x11 x12 x13 x14 x15 x16) S = .ok (.lst ((List.replicate b.toNat r).map dO)) S := by
      have l1 : eLst (aCons (eVar 8) aNil) (env x0 cs (some (dk (·.1) ldW Lp)) (some (.lst (acc.map dO))) (some (.str n)) (some (dO r)) x9 x10 x11 x12 x13 x14 x15 x16) S = .ok (.lst [dO r]) S := lst_ok (cons_ok (var_ok rfl) nil_ok) (by simp)
      have l2 : eN (f1 intF) (aCons (eAnd (e2 (iLt fun i j => decide (j < i)) (eN (f1 lenF) (aCons (eVar 8) aNil)) (eC (.int 1))) (e2 notInF (eVar 8) (eVar 6))) aNil) (env x0 cs (some (dk (·.1) ldW Lp)) (some (.lst (acc.map dO))) (some (.str n)) (some (dO r)) x9 x10 x11 x12 x13 x14 x15 x16) S = .ok (.int b.toNat) S := eN_ok (cons_ok eb nil_ok) (by cases b <;> rfl)
      simp only [eRep, l1, l2, Res.bind_ok]
      cases b
      · rw [if_pos ⟨(by show 1 * 0 < LIM; decide), by decide, by decide⟩]; rfl
      · rw [if_pos ⟨(by show 1 * 1 < LIM; decide), by decide, by decide⟩]; rfl
    have bd : l2B (env x0 cs (some (dk (·.1) ldW Lp)) (some (.lst (acc.map dO))) (some (.str n)) x8 x9 x10 x11 x12 x13 x14 x15 x16) S = .nx (env x0 cs (some (dk (·.1) ldW Lp)) (some (.lst ((addG acc r).map dO))) (some (.str n)) (some (dO r)) x9 x10 x11 x12 x13 x14 x15 x16) S := by
      unfold l2B
      rw [seq_set rl]
      simp only [List.set_cons_succ, List.set_cons_zero]
      have q : acc.length + b.toNat < LIM := lim_le (by cases b <;> simp <;> omega)
      exact (set_ok (S' := S) (e2_ok (x := .lst (acc.map dO)) (y := .lst ((List.replicate b.toNat r).map dO)) (S1 := S) (var_ok rfl) rp (by
        rw [deref_lst, deref_lst]
        simp only [addF, List.length_map, List.length_replicate, if_pos q, hb, List.map_append]))).trans rfl
    exact (forD_nx (ρ1 := env x0 cs (some (dk (·.1) ldW Lp)) (some (.lst (acc.map dO))) (some (.str n)) x8 x9 x10 x11 x12 x13 x14 x15 x16) rfl bd).trans e
/-! ### rows, the law's -/
theorem los_ok (hO : HouseOk cs) (hu : UsOk (cs.map Cl.n) (uses cs)) {a : Str} {x5 x6 x7 x8 x9 x10 x11 x12 x15 : Option D} : ∀ (l : List (List Str)) (acc : List (List Str)) (x14 x16 : Option D), (∀ r ∈ l, Wk (uses cs) (cs.map Cl.n) a r ∧ r.length ≤ 100) → (acc.length + (longer (uses cs) l).length < LIM) →
    ∃ x14' x16', forD (gtName 14) loB (l.map dO) (env x0 cs x5 x6 x7 x8 x9 x10 x11 x12 (some (.lst (acc.map dO))) x14 x15 x16) S = .nx (env x0 cs x5 x6 x7 x8 x9 x10 x11 x12 (some (.lst ((acc ++ longer (uses cs) l).map dO))) x14' x15 x16') S
  | [], acc, x14, x16, _, _ => ⟨x14, x16, by simp [forD, longer]⟩
  | r :: l, acc, x14, x16, hw, hl => by
    obtain ⟨w, r100⟩ := hw r List.mem_cons_self
    obtain ⟨c, hc, ec⟩ := List.mem_map.mp (w.inN _ (Wk.lm w.ne))
    have lu := lawuses_ok (S := S) hO hc
    rw [ec] at lu
    have lw : longer (uses cs) (r :: l) = ((uses cs (lst r)).map fun o => r ++ [o]) ++ longer (uses cs) l := by simp [longer]
    have ll : (longer (uses cs) (r :: l)).length = (uses cs (lst r)).length + (longer (uses cs) l).length := by rw [lw]; simp
    obtain ⟨x14', x16', e⟩ := los_ok hO hu (x5 := x5) (x6 := x6) (x7 := x7) (x8 := x8) (x9 := x9) (x10 := x10) (x11 := x11) (x12 := x12) (x15 := x15) l (acc ++ (uses cs (lst r)).map fun o => r ++ [o]) (some (dO r)) x16 (fun q hq => hw q (List.mem_cons_of_mem _ hq)) (by simp; omega)
    refine ⟨x14', x16', ?_⟩
    have lm := lcD_map (g := gtName 16) (fe := e2 addF (eVar 14) (eTup (aCons (eVar 16) aNil))) (ρ := env x0 cs x5 x6 x7 x8 x9 x10 x11 x12 (some (.lst (acc.map dO))) (some (dO r)) x15 none) (S := S) D.str (fun o => dO (r ++ [o])) (l := uses cs (lst r)) (acc := []) (fun o _ => ⟨_, rfl, e2_ok (x := dO r) (y := .tup [.str o]) (S1 := S) (var_ok rfl) (tup_ok (cons_ok (var_ok rfl) nil_ok) (by simp)) (by
      have q : r.length + 1 < LIM := lim_le (by omega)
      have dd : deref S (dO r) = .tup (r.map .str) := rfl
      rw [dd, deref_tup]
      simp only [addF, List.length_map, List.length_singleton, if_pos q, dO, List.map_append, List.map_cons, List.map_nil])⟩)
    rw [List.nil_append] at lm
    have bd : loB (env x0 cs x5 x6 x7 x8 x9 x10 x11 x12 (some (.lst (acc.map dO))) (some (dO r)) x15 x16) S = .nx (env x0 cs x5 x6 x7 x8 x9 x10 x11 x12 (some (.lst ((acc ++ (uses cs (lst r)).map fun o => r ++ [o]).map dO))) (some (dO r)) x15 x16) S := by
      unfold loB
      have q : acc.length + (uses cs (lst r)).length < LIM := by omega
      refine (set_ok (S' := S) (e2_ok (x := .lst (acc.map dO)) (y := .lst ((uses cs (lst r)).map fun o => dO (r ++ [o]))) (S1 := S) (d := .lst ((acc ++ (uses cs (lst r)).map fun o => r ++ [o]).map dO)) (var_ok rfl) (lc_ok (S1 := S) (seq_ok (ds := (uses cs (lst r)).map .str) (call_ok (cons_ok (var_ok rfl) (cons_ok (last_ok rfl w.ne) nil_ok)) lu)) lm) ?_)).trans rfl
      rw [deref_lst, deref_lst]
      simp only [addF, List.length_map, if_pos q, List.map_append, List.map_map]
      rfl
    rw [lw, ← List.append_assoc]
    exact (forD_nx (ρ1 := env x0 cs x5 x6 x7 x8 x9 x10 x11 x12 (some (.lst (acc.map dO))) (some (dO r)) x15 x16) rfl bd).trans e
structure RW8 (cs : List Cl) (a : Str) (L : List (List Str)) : Prop where
  ok : ∀ r ∈ L, Wk (uses cs) (cs.map Cl.n) a r ∧ r.length ≤ 100
  len : L.length < LIM
theorem sh_sort (hO : HouseOk cs) {a : Str} {L : List (List Str)} (h : RW8 cs a L) : shD (.lst (sortD (L.map dO))) = true := okD_sh (okD_lst (n := 1) fun d hd => by
  have p : (sortD (L.map dO)).Perm (L.map dO) := List.mergeSort_perm _ _
  obtain ⟨r, hr, rfl⟩ := List.mem_map.mp (p.mem_iff.mp hd)
  exact op_sh fun x hx => okN hO ((h.ok r hr).1.inN x hx)) (by decide)
theorem rd_ok (hO : HouseOk cs) (hu : UsOk (cs.map Cl.n) (uses cs)) {a : Str} (ha : a ∈ cs.map Cl.n) {t : Nat} (ht : t ≤ 6) {x5 x6 x7 x8 x9 x12 x13 x14 x15 x16 : Option D} :
    ∃ x13' x14' x15' x16', rdB (env x0 cs x5 x6 x7 x8 x9 (some (.lst ((Ls (uses cs) a t).map dO))) (some (dB (bst (uses cs) a t))) x12 x13 x14 x15 x16) S = .nx (env x0 cs x5 x6 x7 x8 x9 (some (.lst ((Ls (uses cs) a (t + 1)).map dO))) (some (dB (bst (uses cs) a (t + 1)))) x12 x13' x14' x15' x16') S := by
  have hW := Ls_wk hu ha t
  have lw := longer_wk hu hW
  have sm := longer_small hu ha ht
  have r8 : RW8 cs a (longer (uses cs) (Ls (uses cs) a t)) := ⟨fun r hr => ⟨(lw r hr).1, by have := (lw r hr).2.1; omega⟩, sm⟩
  have g8 : RW8 cs a (Gs (uses cs) a t) := ⟨fun r hr => r8.ok r (List.mem_filter.mp hr).1, Nat.lt_of_le_of_lt (List.length_filter_le _ _) sm⟩
  obtain ⟨x14', x16', el⟩ := los_ok (S := S) (x0 := x0) hO hu (a := a) (x5 := x5) (x6 := x6) (x7 := x7) (x8 := x8) (x9 := x9) (x10 := some (.lst ((Ls (uses cs) a t).map dO))) (x11 := some (dB (bst (uses cs) a t))) (x12 := x12) (x15 := x15) (Ls (uses cs) a t) [] x14 x16 (fun r hr => ⟨(hW r hr).1, by have := (hW r hr).2.1; omega⟩) (by simpa using sm)
  rw [List.nil_append, List.map_nil] at el
  have lf := lcD_filt (g := gtName 14) (fc := (e2 inF (e2 ixF (eVar 14) (e1 negF (eC (.int 1)))) (eSl slF (eVar 14) (eC .non) (e1 ptF (e1 negF (eC (.int 1))))))) (fe := eVar 14) (ρ := env x0 cs x5 x6 x7 x8 x9 (some (.lst ((longer (uses cs) (Ls (uses cs) a t)).map dO))) (some (dB (bst (uses cs) a t))) x12 (some (.lst ((longer (uses cs) (Ls (uses cs) a t)).map dO))) none x15 x16') (S := S) dO dO rep (l := longer (uses cs) (Ls (uses cs) a t)) (acc := []) (fun r hr => ⟨_, rfl, rep_ok rfl (lw r hr).1.ne, fun _ => var_ok rfl⟩)
  rw [List.nil_append] at lf
  have gne : ∀ r ∈ Gs (uses cs) a t, r ≠ [] := fun r hr => (g8.ok r hr).1.ne
  have srt : eN (f1 sortA) (aCons (eLc [14] (iSeq (eVar 10)) (gtName 14) (e2 inF (e2 ixF (eVar 14) (e1 negF (eC (.int 1)))) (eSl slF (eVar 14) (eC .non) (e1 ptF (e1 negF (eC (.int 1)))))) (eVar 14)) aNil) (env x0 cs x5 x6 x7 x8 x9 (some (.lst ((longer (uses cs) (Ls (uses cs) a t)).map dO))) (some (dB (bst (uses cs) a t))) x12 (some (.lst ((longer (uses cs) (Ls (uses cs) a t)).map dO))) x14' x15 x16') S = .ok (.lst (sortD ((Gs (uses cs) a t).map dO))) S := eN_ok (cons_ok (lc_ok (S1 := S) (seq_ok (ds := (longer (uses cs) (Ls (uses cs) a t)).map dO) (var_ok rfl)) lf) nil_ok) (by
    simp only [List.map_cons, List.map_nil, deref_lst, f1]
    exact sortA_O g8.len gne)
  have isn := isN_dB (f := eVar 11) (ρ := env x0 cs x5 x6 x7 x8 x9 (some (.lst ((longer (uses cs) (Ls (uses cs) a t)).map dO))) (some (dB (bst (uses cs) a t))) x12 (some (.lst ((longer (uses cs) (Ls (uses cs) a t)).map dO))) x14' (some (.lst (sortD ((Gs (uses cs) a t).map dO)))) x16') (S := S) (var_ok rfl)
  have ne := e2_ok (g := neF) (fa := eVar 15) (fb := eLst aNil) (ρ := env x0 cs x5 x6 x7 x8 x9 (some (.lst ((longer (uses cs) (Ls (uses cs) a t)).map dO))) (some (dB (bst (uses cs) a t))) x12 (some (.lst ((longer (uses cs) (Ls (uses cs) a t)).map dO))) x14' (some (.lst (sortD ((Gs (uses cs) a t).map dO)))) x16') (S := S) (x := .lst (sortD ((Gs (uses cs) a t).map dO))) (y := .lst []) (S1 := S) (S2 := S) (d := .bl (!(sortD ((Gs (uses cs) a t).map dO)).isEmpty)) (var_ok rfl) (lst_ok nil_ok (by simp)) (by rw [deref_lst, deref_lst]; exact ne_nilG (sh_sort hO g8))
  have pick : eIf (eAnd (eIsN (eVar 11)) (e2 neF (eVar 15) (eLst aNil))) (e2 ixF (eVar 15) (eC (.int 0))) (eVar 11) (env x0 cs x5 x6 x7 x8 x9 (some (.lst ((longer (uses cs) (Ls (uses cs) a t)).map dO))) (some (dB (bst (uses cs) a t))) x12 (some (.lst ((longer (uses cs) (Ls (uses cs) a t)).map dO))) x14' (some (.lst (sortD ((Gs (uses cs) a t).map dO)))) x16') S = .ok (dB (bst (uses cs) a (t + 1))) S := by
    have eb : bst (uses cs) a (t + 1) = if bst (uses cs) a t = none ∧ Gs (uses cs) a t ≠ [] then some (minS (Gs (uses cs) a t)) else bst (uses cs) a t := rfl
    cases hb : bst (uses cs) a t with
    | some r =>
      rw [hb] at isn eb
      rw [eb, if_neg (fun q => by cases q.1)]
      exact if_ff (and_ff isn) (var_ok rfl)
    | none =>
      rw [hb] at isn eb ne
      by_cases q : Gs (uses cs) a t = []
      · rw [eb, if_neg (fun z => z.2 q)]
        rw [q] at ne isn ⊢
        refine if_ff (and_tt isn (ne.trans ?_)) (var_ok rfl)
        simp [sortD]
      · obtain ⟨tl, et⟩ := minS_sort q
        rw [eb, if_pos ⟨rfl, q⟩]
        rw [et] at ne isn ⊢
        exact if_tt (and_tt isn ne) (e2_ok (x := .lst (dO (minS (Gs (uses cs) a t)) :: tl)) (S1 := S) (var_ok rfl) c_ok (by rw [deref_lst, deref_int]; exact atI_0 _ _))
  have lf2 := lcD_filt (g := gtName 14) (fc := (e2 notInF (e2 ixF (eVar 14) (e1 negF (eC (.int 1)))) (eSl slF (eVar 14) (eC .non) (e1 ptF (e1 negF (eC (.int 1))))))) (fe := eVar 14) (ρ := env x0 cs x5 x6 x7 x8 x9 (some (.lst ((longer (uses cs) (Ls (uses cs) a t)).map dO))) (some (dB (bst (uses cs) a (t + 1)))) x12 (some (.lst ((longer (uses cs) (Ls (uses cs) a t)).map dO))) none (some (.lst (sortD ((Gs (uses cs) a t).map dO)))) x16') (S := S) dO dO (fun r => !rep r) (l := longer (uses cs) (Ls (uses cs) a t)) (acc := []) (fun r hr => ⟨_, rfl, nrep_ok rfl (lw r hr).1.ne, fun _ => var_ok rfl⟩)
  rw [List.nil_append] at lf2
  refine ⟨some (.lst ((longer (uses cs) (Ls (uses cs) a t)).map dO)), x14', some (.lst (sortD ((Gs (uses cs) a t).map dO))), x16', ?_⟩
  unfold rdB
  rw [seq_set (d := .lst []) (S' := S) (lst_ok nil_ok (by simp))]
  simp only [List.set_cons_succ, List.set_cons_zero]
  have fo := for_ok (fi := iSeq (eVar 10)) (S1 := S) (seq_ok (ds := (Ls (uses cs) a t).map dO) (var_ok rfl)) el
  rw [seq_nx (show sFor (iSeq (eVar 10)) (gtName 14) loB _ S = _ from fo)]
  rw [seq_set (d := .lst ((longer (uses cs) (Ls (uses cs) a t)).map dO)) (S' := S) (var_ok rfl)]
  simp only [List.set_cons_succ, List.set_cons_zero]
  rw [seq_set srt]
  simp only [List.set_cons_succ, List.set_cons_zero]
  rw [seq_set pick]
  simp only [List.set_cons_succ, List.set_cons_zero]
  exact (set_ok (lc_ok (S1 := S) (seq_ok (ds := (longer (uses cs) (Ls (uses cs) a t)).map dO) (var_ok rfl)) lf2)).trans rfl
theorem bst_len {N : List Str} {us : Str → List Str} (hu : UsOk N us) {a : Str} (ha : a ∈ N) : ∀ {n : Nat} {r : List Str}, bst us a n = some r → r.length ≤ 1000
  | 0, r, h => by cases h
  | n + 1, r, h => by
    unfold bst at h
    split at h
    · rename_i q
      cases h
      have hm := minS_mem q.2
      obtain ⟨hm, _⟩ := List.mem_filter.mp hm
      obtain ⟨z, hz, hm⟩ := List.mem_flatMap.mp hm
      obtain ⟨o, _, e⟩ := List.mem_map.mp hm
      obtain ⟨w, l, nd⟩ := Ls_wk hu ha n z hz
      have := nodup_le nd w.inN
      have := hu.len
      rw [← e]
      simp
      omega
    · exact bst_len hu ha h
theorem cyc_list (hu : UsOk (cs.map Cl.n) (uses cs)) {a : Str} (ha : a ∈ cs.map Cl.n) {G : List Str} (hG : ∀ o, o ∈ G ↔ Rch (uses cs) a o) : (!(((a :: G).filter fun o => rB (uses cs) o o).map D.str).isEmpty) = cyB (uses cs) a := by
  have e : Cyc (uses cs) a ↔ (a :: G).filter (fun o => rB (uses cs) o o) ≠ [] := by
    constructor
    · rintro ⟨o, ho, hc⟩ q
      have : o ∈ (a :: G).filter (fun o => rB (uses cs) o o) := by
        refine List.mem_filter.mpr ⟨?_, by unfold rB; simpa using hc⟩
        rcases ho with rfl | ho
        · exact List.mem_cons_self
        · exact List.mem_cons_of_mem _ ((hG o).mpr ho)
      rw [q] at this; cases this
    · intro q
      obtain ⟨o, ho⟩ := List.exists_mem_of_ne_nil _ q
      obtain ⟨h1, h2⟩ := List.mem_filter.mp ho
      refine ⟨o, ?_, by unfold rB at h2; simpa using h2⟩
      rcases List.mem_cons.mp h1 with h1 | h1
      · exact .inl h1
      · exact .inr ((hG o).mp h1)
  cases hq : (a :: G).filter (fun o => rB (uses cs) o o) with
  | nil =>
    rw [hq] at e
    exact (cyB_f (fun z => e.mp z rfl)).symm
  | cons b l =>
    rw [hq] at e
    exact (cyB_t (e.mpr (by simp))).symm
theorem bst_cyB (hu : UsOk (cs.map Cl.n) (uses cs)) {a : Str} (ha : a ∈ cs.map Cl.n) : (bst (uses cs) a (cs.map Cl.n).length).isSome = cyB (uses cs) a := by
  cases hb : bst (uses cs) a (cs.map Cl.n).length with
  | none => exact (cyB_f fun z => cyc_to hu ha z hb).symm
  | some r => exact (cyB_t (cyc_of hu ha (n := (cs.map Cl.n).length) (by rw [hb]; simp))).symm
theorem ear_cyB (hu : UsOk (cs.map Cl.n) (uses cs)) {a : Str} (ha : a ∈ cs.map Cl.n) : (!((begs (uses cs) [a] ([], [])).2.map dE2).isEmpty) = cyB (uses cs) a := by
  have e := early_cyc hu ha
  cases hq : (begs (uses cs) [a] ([], [])).2 with
  | nil => rw [hq] at e; exact (cyB_f fun z => e.mpr z rfl).symm
  | cons b l => rw [hq] at e; exact (cyB_t (e.mp (by simp))).symm
/-- pairs met early are of names -/
theorem beg_in {N : List Str} {us : Str → List Str} (hu : UsOk N us) {a : Str} (ha : a ∈ N) : ∀ p ∈ (begs us [a] ([], [])).2, p.1 ∈ N ∧ p.2 ∈ N := by
  intro p hp
  obtain ⟨h1, h2, h3⟩ := beg_good (us := us) (a := a) 9 a [] ([], []) (.inl rfl) (by simp) (by simp) p hp
  have n1 : p.1 ∈ N := by
    rcases h1 with e | e
    · rw [e]; exact ha
    · exact e.inN hu ha
  exact ⟨n1, hu.sub _ n1 _ h2⟩
theorem sh_E2 (hO : HouseOk cs) (hu : UsOk (cs.map Cl.n) (uses cs)) {a : Str} (ha : a ∈ cs.map Cl.n) : shD (.lst ((begs (uses cs) [a] ([], [])).2.map dE2)) = true := okD_sh (okD_lst (n := 1) fun d hd => by
  obtain ⟨p, hp, rfl⟩ := List.mem_map.mp hd
  obtain ⟨n1, n2⟩ := beg_in hu ha p hp
  refine op_sh (o := [p.1, p.2]) fun k hk => ?_
  simp only [List.mem_cons, List.not_mem_nil, or_false] at hk
  rcases hk with rfl | rfl
  · exact okN hO n1
  · exact okN hO n2) (by decide)
theorem isearly_ok (hh : HAt S 1 cs) (hO : HouseOk cs) (hu : UsOk (cs.map Cl.n) (uses cs)) {a : Str} (ha : a ∈ cs.map Cl.n) : f_is_early [.obj 1, .str a] S = .ok (.bl (cyB (uses cs) a)) (ap S (begs (uses cs) [a] ([], []))) := by
  obtain ⟨c, hc, ec⟩ := List.mem_map.mp ha
  have nc := needc_ok (S := S) hh hO hc
  rw [ec] at nc
  have ab := allbegun_ok (l := [a]) (X := .lst [.str a]) hh hO hu (.inl rfl) (by simpa using ha)
  refine fn_rt ?_
  show b_is_early [some (.obj 1), some (.str a)] S = _
  unfold b_is_early
  rw [seq_nx (expr_ok (call_ok (cons_ok (var_ok rfl) (cons_ok (var_ok rfl) nil_ok)) nc))]
  refine ret_ok (e2_ok (x := .obj (S.length + 1)) (y := .lst []) (S1 := ap S (begs (uses cs) [a] ([], []))) (e2_ok (x := .tup [.obj S.length, .obj (S.length + 1)]) (y := .int 1) (S1 := ap S (begs (uses cs) [a] ([], []))) (call_ok (cons_ok (var_ok rfl) (cons_ok (lst_ok (cons_ok (var_ok rfl) nil_ok) (by simp)) nil_ok)) ab) c_ok (by simp [deref_tup, deref_int, ixF, ixS, atI_1])) (lst_ok nil_ok (by simp)) ?_)
  rw [der_b, deref_lst, ne_nilG (sh_E2 hO hu ha), ear_cyB hu ha]
theorem turn_ok (hh : HAt S 1 cs) (hO : HouseOk cs) (hu : UsOk (cs.map Cl.n) (uses cs)) (hL : LpOk (uses cs) (cs.map Cl.n) Lp) (hL7 : ∀ p ∈ Lp, p.2.length ≤ 7) {a : Str} (ha : a ∈ cs.map Cl.n) {x6 x8 x9 x10 x11 x12 x13 x14 x15 x16 : Option D} :
    ∃ x9' x10' x11' x12' x13' x14' x15' x16' S', l3B (env x0 cs (some (dk (·.1) ldW Lp)) x6 (some (.str a)) x8 x9 x10 x11 x12 x13 x14 x15 x16) S = .nx (env x0 cs (some (dk (·.1) ldW Lp)) x6 (some (.str a)) x8 x9' x10' x11' x12' x13' x14' x15' x16') S' ∧ HAt S' 1 cs := by
  have n7 := hu.len
  obtain ⟨p, fp, dp⟩ := hL.at hu.nd ha
  have pm := fnd_mem (α := Str × List Str) (·.1) fp
  have pG : ∀ o, o ∈ p.2 ↔ Rch (uses cs) a o := fun o => by have := hL.ok p pm.1 o; rw [show p.1 = a from pm.2] at this; exact this
  have p7 := hL7 p pm.1
  have apN : ∀ o ∈ a :: p.2, o ∈ cs.map Cl.n := fun o ho => by
    rcases List.mem_cons.mp ho with rfl | ho
    · exact ha
    · exact ((pG o).mp ho).inN hu ha
  -- is it led to a ring
  have lf := lcD_filt (g := gtName 16) (fc := e2 inF (eVar 16) (e2 ixF (eVar 5) (eVar 16))) (fe := eVar 16) (ρ := env x0 cs (some (dk (·.1) ldW Lp)) x6 (some (.str a)) x8 x9 x10 x11 x12 x13 x14 x15 none) (S := S) D.str D.str (fun o => rB (uses cs) o o) (l := a :: p.2) (acc := []) (fun o ho => by
    obtain ⟨q, fq, dq⟩ := hL.at hu.nd (apN o ho)
    refine ⟨_, rfl, ?_, fun _ => var_ok rfl⟩
    refine e2_ok (x := .str o) (y := ldW q) (S1 := S) (var_ok rfl) (e2_ok (x := dk (α := Str × List Str) (·.1) ldW Lp) (y := .str o) (S1 := S) (var_ok rfl) (var_ok rfl) (ix_txt (α := Str × List Str) (·.1) ldW fq)) ?_
    rw [← dq o]; exact inF_lst q.2 o)
  rw [List.nil_append] at lf
  have q8 : 1 + p.2.length < LIM := lim_le (by omega)
  have sq : iSeq (e2 addF (eLst (aCons (eVar 7) aNil)) (e2 ixF (eVar 5) (eVar 7))) (env x0 cs (some (dk (·.1) ldW Lp)) x6 (some (.str a)) x8 x9 x10 x11 x12 x13 x14 x15 x16) S = .ok ((a :: p.2).map .str) S := seq_ok (e2_ok (x := .lst [.str a]) (y := ldW p) (S1 := S) (lst_ok (cons_ok (var_ok rfl) nil_ok) (by simp)) (e2_ok (x := dk (α := Str × List Str) (·.1) ldW Lp) (y := .str a) (S1 := S) (var_ok rfl) (var_ok rfl) (ix_txt (α := Str × List Str) (·.1) ldW fp)) (by
    have dd : deref S (ldW p) = .lst (p.2.map .str) := rfl
    rw [dd, deref_lst]
    simp only [addF, List.length_singleton, List.length_map, if_pos q8]
    rfl))
  have okL : shD (.lst (((a :: p.2).filter fun o => rB (uses cs) o o).map D.str)) = true := okD_sh (okD_lst (n := 0) fun d hd => by
    obtain ⟨x, hx, rfl⟩ := List.mem_map.mp hd
    exact okN hO (apN x (List.mem_filter.mp hx).1)) (by decide)
  have il : e2 neF (eLc [16] (iSeq (e2 addF (eLst (aCons (eVar 7) aNil)) (e2 ixF (eVar 5) (eVar 7)))) (gtName 16) (e2 inF (eVar 16) (e2 ixF (eVar 5) (eVar 16))) (eVar 16)) (eLst aNil) (env x0 cs (some (dk (·.1) ldW Lp)) x6 (some (.str a)) x8 x9 x10 x11 x12 x13 x14 x15 x16) S = .ok (.bl (cyB (uses cs) a)) S := e2_ok (x := .lst (((a :: p.2).filter fun o => rB (uses cs) o o).map D.str)) (y := .lst []) (S1 := S) (lc_ok (S1 := S) sq lf) (lst_ok nil_ok (by simp)) (by rw [deref_lst, deref_lst, ne_nilG okL, cyc_list hu ha pG])
  obtain ⟨ρ', S1, e1, x12', x13', x14', x15', x16', rfl, rfl⟩ := forD_all (g := gtName 12) (body := rdB) (xs := dInts 0 (cs.map Cl.n).length) (ρ := env x0 cs (some (dk (·.1) ldW Lp)) x6 (some (.str a)) x8 (some (.bl (cyB (uses cs) a))) (some (.lst [dO [a]])) (some .non) x12 x13 x14 x15 x16) (S := S)
    (fun t ρ T => ∃ x12 x13 x14 x15 x16, ρ = env x0 cs (some (dk (·.1) ldW Lp)) x6 (some (.str a)) x8 (some (.bl (cyB (uses cs) a))) (some (.lst ((Ls (uses cs) a t).map dO))) (some (dB (bst (uses cs) a t))) x12 x13 x14 x15 x16 ∧ T = S)
    ⟨_, _, _, _, _, rfl, rfl⟩ (by
      rintro t x ρ T hx ⟨x12, x13, x14, x15, x16, rfl, rfl⟩
      have ht := (dInts_get hx).1
      obtain ⟨x13', x14', x15', x16', e⟩ := rd_ok (x0 := x0) (S := T) hO hu ha (t := t) (by omega) (x5 := some (dk (·.1) ldW Lp)) (x6 := x6) (x7 := some (.str a)) (x8 := x8) (x9 := some (.bl (cyB (uses cs) a))) (x12 := some x) (x13 := x13) (x14 := x14) (x15 := x15) (x16 := x16)
      exact ⟨_, _, T, rfl, .inl e, _, _, _, _, _, rfl, rfl⟩)
  rw [dInts_len'] at e1
  -- after the rounds
  let ρf : DEnv := env x0 cs (some (dk (·.1) ldW Lp)) x6 (some (.str a)) x8 (some (.bl (cyB (uses cs) a))) (some (.lst ((Ls (uses cs) a (cs.map Cl.n).length).map dO))) (some (dB (bst (uses cs) a (cs.map Cl.n).length))) x12' x13' x14' x15' x16'
  have nn := notN_dB (f := eVar 11) (ρ := ρf) (S := S1) (v := bst (uses cs) a (cs.map Cl.n).length) (var_ok rfl)
  rw [bst_cyB hu ha] at nn
  have c1 : e2 neF (eNotN (eVar 11)) (eVar 9) ρf S1 = .ok (.bl false) S1 := e2_ok (x := .bl (cyB (uses cs) a)) (y := .bl (cyB (uses cs) a)) (S1 := S1) nn (var_ok rfl) (by rw [deref_bl]; exact ne_bl _)
  have rt := ringto_ok (a := a) hh hO hu ha
  have rt : f_ring_to [.obj 1, .str a] S1 = .ok (dB (bst (uses cs) a (cs.map Cl.n).length)) S1 := rt.trans (by cases bst (uses cs) a (cs.map Cl.n).length <;> rfl)
  have alB : Al 1 (dB (bst (uses cs) a (cs.map Cl.n).length)) := by
    cases hb : bst (uses cs) a (cs.map Cl.n).length with
    | none => exact .non _
    | some r =>
      exact al_strs r (bst_len hu ha hb)
  have c2 : eNot (eCall (f__law_alike 9) (aCons (eCall f_ring_to (aCons (eVar 4) (aCons (eVar 7) aNil))) (aCons (eVar 11) aNil))) ρf S1 = .ok (.bl false) S1 := not_ok (b := true) (call_ok (cons_ok (call_ok (cons_ok (var_ok rfl) (cons_ok (var_ok rfl) nil_ok)) rt) (cons_ok (var_ok rfl) nil_ok)) (alike9 S1 alB (by decide)))
  have ie := isearly_ok hh hO hu ha
  let S2 : Sto := ap S1 (begs (uses cs) [a] ([], []))
  have hh2 : HAt S2 1 cs := hat_ap hh
  let S3 : Sto := ap S2 (begs (uses cs) [a] ([], []))
  have hh3 : HAt S3 1 cs := hat_ap hh2
  have c3 : eNot (eCall (f__law_alike 9) (aCons (eCall f_is_early (aCons (eVar 4) (aCons (eVar 7) aNil))) (aCons (eVar 9) aNil))) ρf S1 = .ok (.bl false) S2 := not_ok (b := true) (call_ok (cons_ok (call_ok (cons_ok (var_ok rfl) (cons_ok (var_ok rfl) nil_ok)) ie) (cons_ok (var_ok rfl) nil_ok)) (alike9 S2 (.bl 0 _) (by decide)))
  have me := metearly_ok (l := [a]) (X := .lst [.str a]) hh2 hO hu (.inl rfl) (by simpa using ha) (by simp)
  have c4a : e2 neF (eCall f_met_early (aCons (eVar 4) (aCons (eLst (aCons (eVar 7) aNil)) aNil))) (eLst aNil) ρf S2 = .ok (.bl (cyB (uses cs) a)) S3 := e2_ok (x := .obj (S2.length + 1)) (y := .lst []) (S1 := S3) (call_ok (cons_ok (var_ok rfl) (cons_ok (lst_ok (cons_ok (var_ok rfl) nil_ok) (by simp)) nil_ok)) me) (lst_ok nil_ok (by simp)) (by rw [der_b, deref_lst, ne_nilG (sh_E2 hO hu ha), ear_cyB hu ha])
  have c4 : e2 neF (e2 neF (eCall f_met_early (aCons (eVar 4) (aCons (eLst (aCons (eVar 7) aNil)) aNil))) (eLst aNil)) (eVar 9) ρf S2 = .ok (.bl false) S3 := e2_ok (x := .bl (cyB (uses cs) a)) (y := .bl (cyB (uses cs) a)) (S1 := S3) c4a (var_ok rfl) (by rw [deref_bl]; exact ne_bl _)
  refine ⟨some (.bl (cyB (uses cs) a)), some (.lst ((Ls (uses cs) a (cs.map Cl.n).length).map dO)), some (dB (bst (uses cs) a (cs.map Cl.n).length)), x12', x13', x14', x15', x16', S3, ?_, hh3⟩
  unfold l3B
  rw [seq_set il]
  simp only [List.set_cons_succ, List.set_cons_zero]
  rw [seq_nx (par_ok (ds := [.lst [dO [a]], .non]) (S1 := S1) (cons_ok (lst_ok (cons_ok (tup_ok (S1 := S1) (ds := [.str a]) (cons_ok (var_ok rfl) nil_ok) (by simp)) nil_ok) (by simp)) (cons_ok (d := .non) c_ok nil_ok)))]
  simp only [putD', List.set_cons_succ, List.set_cons_zero]
  have ln : eN (f1 lenF) (aCons (eVar 3) aNil) (env x0 cs (some (dk (·.1) ldW Lp)) x6 (some (.str a)) x8 (some (.bl (cyB (uses cs) a))) (some (.lst [dO [a]])) (some .non) x12 x13 x14 x15 x16) S1 = .ok (.int (cs.map Cl.n).length) S1 := eN_ok (cons_ok (var_ok rfl) nil_ok) (by simp only [List.map_cons, List.map_nil, deref_lst, f1, lenF, List.length_map])
  rw [seq_nx (for_ok (S1 := S1) (range_ok (n := (cs.map Cl.n).length) (cons_ok ln nil_ok) (by omega)) e1)]
  rw [seq_skip (S' := S1) (or_ff c1 c2)]
  exact if_f (or_ff c3 c4)
end
end K86

set_option maxHeartbeats 4000000
namespace K86
open DL PySem PySem.Spec PyProof.Rows L2 H Hr
theorem law_ok (cells : List Int) : ∃ S', f_law [.lst (cells.map D.int)] [] = .ok (.bl true) S' := by
  let x0 : Option D := some (.lst (cells.map .int))
  obtain ⟨cs, S1, e1', hO, h7, b1⟩ := begins_ok (cells := cells) (T := []) (S := row cells 0 2986 0 []) ⟨_, _, _, rfl⟩
  obtain ⟨hh0, hlen, b2⟩ := house_at (cs := cs) b1
  have hu := us_ok hO h7
  have mk := make_ok (fa := aCons (eVar 2) aNil) (ρ := [x0, some (.obj 0), some (dCs cs), some (.lst ((cs.map Cl.n).map .str)), none, none, none, none, none, none, none, none, none, none, none, none, none]) (S := S1) (S' := S1) hO (cons_ok (var_ok rfl) nil_ok)
  rw [hlen] at mk
  have n7 : (cs.map Cl.n).length ≤ 7 := hu.len
  obtain ⟨Lp, x7', e2', hL, hL7⟩ := leds_ok (x0 := x0) (S := S1 ++ [hs0 cs]) hO hu (x6 := some (.lst [])) (x8 := none) (x9 := none) (x10 := none) (x11 := none) (x12 := none) (x13 := none) (x14 := none) (x15 := none) (x16 := none) (cs.map Cl.n) [] none (by simpa using hu.nd) (fun _ h => h) (by simp only [List.length_nil]; omega)
  rw [List.nil_append] at e2'
  obtain ⟨x7'', x8'', e3'⟩ := duel_ok (x0 := x0) (S := S1 ++ [hs0 cs]) hO hu hL (x9 := none) (x10 := none) (x11 := none) (x12 := none) (x13 := none) (x14 := none) (x15 := none) (x16 := none) (cs.map Cl.n) [] x7' none (fun _ h => h) (by simp) (by simp only [List.length_nil]; omega)
  have e3' : forD (gtName 7) l2B ((cs.map Cl.n).map .str) (env x0 cs (some (dk (·.1) ldW Lp)) (some (.lst [])) x7' none none none none none none none none none) (S1 ++ [hs0 cs]) = .nx (env x0 cs (some (dk (·.1) ldW Lp)) (some (.lst ((rgs (uses cs) (cs.map Cl.n)).map dO))) x7'' x8'' none none none none none none none none) (S1 ++ [hs0 cs]) := e3'
  obtain ⟨r7, rr⟩ := rgs_ok (us := uses cs) n7
  obtain ⟨S2, e4', tl, htl⟩ := userings_ok hh0 hO hu
  have hh2 : HAt S2 1 cs := by rw [htl]; exact hat_tl hh0
  obtain ⟨ρ', S3, e5', y7, y9, y10, y11, y12, y13, y14, y15, y16, rfl, hh3⟩ := forD_all (g := gtName 7) (body := l3B) (xs := (cs.map Cl.n).map .str) (ρ := env x0 cs (some (dk (·.1) ldW Lp)) (some (.lst ((rgs (uses cs) (cs.map Cl.n)).map dO))) x7'' x8'' none none none none none none none none) (S := S2)
    (fun i ρ T => ∃ y7 y9 y10 y11 y12 y13 y14 y15 y16, ρ = env x0 cs (some (dk (·.1) ldW Lp)) (some (.lst ((rgs (uses cs) (cs.map Cl.n)).map dO))) y7 x8'' y9 y10 y11 y12 y13 y14 y15 y16 ∧ HAt T 1 cs)
    ⟨_, _, _, _, _, _, _, _, _, rfl, hh2⟩ (by
      rintro i x ρ T hx ⟨y7, y9, y10, y11, y12, y13, y14, y15, y16, rfl, hh⟩
      obtain ⟨a, ha, rfl⟩ := List.mem_map.mp (List.mem_of_getElem? hx)
      obtain ⟨x9', x10', x11', x12', x13', x14', x15', x16', T', e, hT⟩ := turn_ok (x0 := x0) hh hO hu hL hL7 ha (x6 := some (.lst ((rgs (uses cs) (cs.map Cl.n)).map dO))) (x8 := x8'') (x9 := y9) (x10 := y10) (x11 := y11) (x12 := y12) (x13 := y13) (x14 := y14) (x15 := y15) (x16 := y16)
      exact ⟨_, _, T', rfl, .inl e, _, _, _, _, _, _, _, _, _, rfl, hT⟩)
  refine ⟨S3, fn_rt ?_⟩
  show b_law [x0, none, none, none, none, none, none, none, none, none, none, none, none, none, none, none, none] [] = _
  show sSeq _ (sSeq _ (sSeq _ (sSeq (sFor _ _ l1B) (sSeq (sFor _ _ l2B) (sSeq _ (sSeq (sFor _ _ l3B) _)))))) _ _ = _
  have un : sUnp (gtTup (gtCons (gtName 2) (gtCons (gtName 3) gtNil))) (eCall f__law_begins (aCons (eVar 1) aNil)) [x0, some (.obj 0), none, none, none, none, none, none, none, none, none, none, none, none, none, none, none] (row cells 0 2986 0 []) = .nx [x0, some (.obj 0), some (dCs cs), some (.lst ((cs.map Cl.n).map .str)), none, none, none, none, none, none, none, none, none, none, none, none, none] S1 := by
    have c : eCall f__law_begins (aCons (eVar 1) aNil) [x0, some (.obj 0), none, none, none, none, none, none, none, none, none, none, none, none, none, none, none] (row cells 0 2986 0 []) = .ok (.tup [dCs cs, .lst ((cs.map Cl.n).map .str)]) S1 := call_ok (cons_ok (var_ok rfl) nil_ok) e1'
    simp only [sUnp, sBind, c]
    rfl
  rw [seq_nx (new_row cells 2986 none _)]
  rw [seq_nx un]
  rw [seq_nx (par_ok (ds := [.obj 1, .dct [], .lst []]) (S1 := S1 ++ [hs0 cs]) (cons_ok mk (cons_ok rfl (cons_ok (lst_ok nil_ok (by simp)) nil_ok))))]
  simp only [putD', List.set_cons_succ, List.set_cons_zero]
  have f1' : sFor (iSeq (eVar 3)) (gtName 7) l1B [x0, some (.obj 0), some (dCs cs), some (.lst ((cs.map Cl.n).map .str)), some (.obj 1), some (.dct []), some (.lst []), none, none, none, none, none, none, none, none, none, none] (S1 ++ [hs0 cs]) = _ := for_ok (S1 := S1 ++ [hs0 cs]) (seq_ok (ds := (cs.map Cl.n).map .str) (var_ok rfl)) e2'
  rw [seq_nx f1']
  have f2' : sFor (iSeq (eVar 3)) (gtName 7) l2B (env x0 cs (some (dk (·.1) ldW Lp)) (some (.lst [])) x7' none none none none none none none none none) (S1 ++ [hs0 cs]) = _ := for_ok (S1 := S1 ++ [hs0 cs]) (seq_ok (ds := (cs.map Cl.n).map .str) (var_ok rfl)) e3'
  rw [seq_nx f2']
  have e6 : eN (f1 sortA) (aCons (eVar 6) aNil) (env x0 cs (some (dk (·.1) ldW Lp)) (some (.lst ((rgs (uses cs) (cs.map Cl.n)).map dO))) x7'' x8'' none none none none none none none none) S2 = .ok (.lst (sortD ((rgs (uses cs) (cs.map Cl.n)).map dO))) S2 := eN_ok (cons_ok (var_ok rfl) nil_ok) (by
    simp only [List.map_cons, List.map_nil, deref_lst, f1]
    exact sortA_O (lim_le (by omega)) fun r hr => (rr r hr).1)
  have c1 := alike9 S2 (al_O (L := rgs (uses cs) (cs.map Cl.n)) (by omega) fun r hr => by have := (rr r hr).2; omega) (by decide)
  rw [seq_skip (S' := S2) (not_ok (b := true) (call_ok (cons_ok (call_ok (cons_ok (var_ok rfl) nil_ok) e4') (cons_ok e6 nil_ok)) c1))]
  rw [seq_nx (for_ok (S1 := S2) (seq_ok (ds := (cs.map Cl.n).map .str) (var_ok rfl)) e5')]
  exact ret_ok c_ok
end K86

set_option maxHeartbeats 4000000
namespace K86
open DL PySem PySem.Spec PyProof.Rows L2 H
theorem is_tuple {K : PySem.W.Frag} : IsK K [.type "tuple"] tb_tuple to_tuple := isK_ty (ns := ["tuple"]) (by decide +kernel) fun _ _ e => by cases e
theorem is_str {K : PySem.W.Frag} : IsK K [.type "str"] tb_str to_str := isK_ty (ns := ["str"]) (by decide +kernel) fun _ _ e => by cases e
theorem is_int {K : PySem.W.Frag} : IsK K [.type "int"] tb_int to_int := isK_ty (ns := ["int"]) (by decide +kernel) fun _ _ e => by cases e
theorem is_bool {K : PySem.W.Frag} : IsK K [.type "bool"] tb_bool to_bool := isK_ty (ns := ["bool"]) (by decide +kernel) fun _ _ e => by cases e
theorem is_tuple_list {K : PySem.W.Frag} : IsK K [.type "tuple", .type "list"] tb_tuple_list to_tuple_list := isK_ty (ns := ["tuple", "list"]) (by decide +kernel) fun _ _ e => by cases e
theorem is_list {K : PySem.W.Frag} : IsK K [.type "list"] tb_list to_list := isK_ty (ns := ["list"]) (by decide +kernel) fun _ _ e => by cases e
theorem is_list_tuple {K : PySem.W.Frag} : IsK K [.type "list", .type "tuple"] tb_list_tuple to_list_tuple := isK_ty (ns := ["list", "tuple"]) (by decide +kernel) fun _ _ e => by cases e
theorem sc_BadClasses : FnScope ["self", "index"] ["self", "index"] (defScope s_BadClasses) := ⟨rfl, rfl, rfl, by decide +kernel, rfl, by decide +kernel, by decide +kernel⟩
theorem xok_BadClasses {P : Program} {w : World} {K : PySem.W.Frag} {h : Heap} {mg : Str → Option Value} {base : Heap} (kx : K.In h) (G : h.Ns mainGlobals mg) (c : SaysX fa fn ts bs w K) : Xok P w K mg base "BadClasses" ["index"] := by
  obtain ⟨fd, F⟩ := c.d.def_ 36 (d := d_BadClasses) rfl
  have b : Binds K fd ["self", "index"] [] := F.bindsN fun _ _ _ _ _ _ us hl => match us, hl with | [_, _], _ => rfl
  have nd := sc_BadClasses.nd
  have nf_index := He.eqO_ok (c.d.fact 65 (f := .noat "BadClasses" "index") rfl)
  have fi := He.eqO_ok (He.ba (c.d.fact 66 (f := .meth "BadClasses" "__init__") rfl)).1
  refine ⟨⟨He.ma K (He.ga K "BadClasses") "__init__", fd, oexB_ok (c.b 7 rfl), fi, of_decide_eq_true (c.b 8 rfl), F.ok sc_BadClasses (fun vs H Q E hh => ?_) (fun cdv A outer s H vs Q E hr hh => ⟨_, PSs.nox ?_, init1 (by decide) hh (fun _ _ q => q)⟩), b⟩, ?_, He.glo_ok kx G (c.d.fact 67 (f := .glo "BadClasses") rfl)⟩
  · obtain ⟨a, xs, C, rfl, hl, _⟩ := hh; simp [hl]
  · exact (pss_one (ps_ost (pv 0) (pv 1)))
  · intro f hf
    simp only [List.mem_cons, List.not_mem_nil, or_false] at hf
    rcases hf with rfl
    · exact nf_index
theorem sc_BadFields : FnScope ["self", "index"] ["self", "index"] (defScope s_BadFields) := ⟨rfl, rfl, rfl, by decide +kernel, rfl, by decide +kernel, by decide +kernel⟩
theorem xok_BadFields {P : Program} {w : World} {K : PySem.W.Frag} {h : Heap} {mg : Str → Option Value} {base : Heap} (kx : K.In h) (G : h.Ns mainGlobals mg) (c : SaysX fa fn ts bs w K) : Xok P w K mg base "BadFields" ["index"] := by
  obtain ⟨fd, F⟩ := c.d.def_ 37 (d := d_BadFields) rfl
  have b : Binds K fd ["self", "index"] [] := F.bindsN fun _ _ _ _ _ _ us hl => match us, hl with | [_, _], _ => rfl
  have nd := sc_BadFields.nd
  have nf_index := He.eqO_ok (c.d.fact 68 (f := .noat "BadFields" "index") rfl)
  have fi := He.eqO_ok (He.ba (c.d.fact 69 (f := .meth "BadFields" "__init__") rfl)).1
  refine ⟨⟨He.ma K (He.ga K "BadFields") "__init__", fd, oexB_ok (c.b 9 rfl), fi, of_decide_eq_true (c.b 10 rfl), F.ok sc_BadFields (fun vs H Q E hh => ?_) (fun cdv A outer s H vs Q E hr hh => ⟨_, PSs.nox ?_, init1 (by decide) hh (fun _ _ q => q)⟩), b⟩, ?_, He.glo_ok kx G (c.d.fact 70 (f := .glo "BadFields") rfl)⟩
  · obtain ⟨a, xs, C, rfl, hl, _⟩ := hh; simp [hl]
  · exact (pss_one (ps_ost (pv 0) (pv 1)))
  · intro f hf
    simp only [List.mem_cons, List.not_mem_nil, or_false] at hf
    rcases hf with rfl
    · exact nf_index
theorem sc_BadMethods : FnScope ["self", "index", "place"] ["self", "index", "place"] (defScope s_BadMethods) := ⟨rfl, rfl, rfl, by decide +kernel, rfl, by decide +kernel, by decide +kernel⟩
theorem xok_BadMethods {P : Program} {w : World} {K : PySem.W.Frag} {h : Heap} {mg : Str → Option Value} {base : Heap} (kx : K.In h) (G : h.Ns mainGlobals mg) (c : SaysX fa fn ts bs w K) : Xok P w K mg base "BadMethods" ["index", "place"] := by
  obtain ⟨fd, F⟩ := c.d.def_ 38 (d := d_BadMethods) rfl
  have b : Binds K fd ["self", "index", "place"] [] := F.bindsN fun _ _ _ _ _ _ us hl => match us, hl with | [_, _, _], _ => rfl
  have nd := sc_BadMethods.nd
  have nf_index := He.eqO_ok (c.d.fact 71 (f := .noat "BadMethods" "index") rfl)
  have nf_place := He.eqO_ok (c.d.fact 72 (f := .noat "BadMethods" "place") rfl)
  have fi := He.eqO_ok (He.ba (c.d.fact 73 (f := .meth "BadMethods" "__init__") rfl)).1
  refine ⟨⟨He.ma K (He.ga K "BadMethods") "__init__", fd, oexB_ok (c.b 11 rfl), fi, of_decide_eq_true (c.b 12 rfl), F.ok sc_BadMethods (fun vs H Q E hh => ?_) (fun cdv A outer s H vs Q E hr hh => ⟨_, PSs.nox ?_, init2 hh⟩), b⟩, ?_, He.glo_ok kx G (c.d.fact 74 (f := .glo "BadMethods") rfl)⟩
  · obtain ⟨a, xs, C, rfl, hl, _⟩ := hh; simp [hl]
  · exact (pss_cons (ps_ost (pv 0) (pv 1)) (pss_one (ps_ost (pv 0) (pv 2))))
  · intro f hf
    simp only [List.mem_cons, List.not_mem_nil, or_false] at hf
    rcases hf with rfl | rfl
    · exact nf_index
    · exact nf_place
theorem sc_BadCode : FnScope ["self", "index", "place", "step"] ["self", "index", "place", "step"] (defScope s_BadCode) := ⟨rfl, rfl, rfl, by decide +kernel, rfl, by decide +kernel, by decide +kernel⟩
theorem xok_BadCode {P : Program} {w : World} {K : PySem.W.Frag} {h : Heap} {mg : Str → Option Value} {base : Heap} (kx : K.In h) (G : h.Ns mainGlobals mg) (c : SaysX fa fn ts bs w K) : Xok P w K mg base "BadCode" ["index", "place", "step"] := by
  obtain ⟨fd, F⟩ := c.d.def_ 39 (d := d_BadCode) rfl
  have b : Binds K fd ["self", "index", "place", "step"] [] := F.bindsN fun _ _ _ _ _ _ us hl => match us, hl with | [_, _, _, _], _ => rfl
  have nd := sc_BadCode.nd
  have nf_index := He.eqO_ok (c.d.fact 75 (f := .noat "BadCode" "index") rfl)
  have nf_place := He.eqO_ok (c.d.fact 76 (f := .noat "BadCode" "place") rfl)
  have nf_step := He.eqO_ok (c.d.fact 77 (f := .noat "BadCode" "step") rfl)
  have fi := He.eqO_ok (He.ba (c.d.fact 78 (f := .meth "BadCode" "__init__") rfl)).1
  refine ⟨⟨He.ma K (He.ga K "BadCode") "__init__", fd, oexB_ok (c.b 13 rfl), fi, of_decide_eq_true (c.b 14 rfl), F.ok sc_BadCode (fun vs H Q E hh => ?_) (fun cdv A outer s H vs Q E hr hh => ⟨_, PSs.nox ?_, init3 hh⟩), b⟩, ?_, He.glo_ok kx G (c.d.fact 79 (f := .glo "BadCode") rfl)⟩
  · obtain ⟨a, xs, C, rfl, hl, _⟩ := hh; simp [hl]
  · exact (pss_cons (ps_ost (pv 0) (pv 1)) (pss_cons (ps_ost (pv 0) (pv 2)) (pss_one (ps_ost (pv 0) (pv 3)))))
  · intro f hf
    simp only [List.mem_cons, List.not_mem_nil, or_false] at hf
    rcases hf with rfl | rfl | rfl
    · exact nf_index
    · exact nf_place
    · exact nf_step
theorem sc_BadHandlers : FnScope ["self", "index", "place", "row"] ["self", "index", "place", "row"] (defScope s_BadHandlers) := ⟨rfl, rfl, rfl, by decide +kernel, rfl, by decide +kernel, by decide +kernel⟩
theorem xok_BadHandlers {P : Program} {w : World} {K : PySem.W.Frag} {h : Heap} {mg : Str → Option Value} {base : Heap} (kx : K.In h) (G : h.Ns mainGlobals mg) (c : SaysX fa fn ts bs w K) : Xok P w K mg base "BadHandlers" ["index", "place", "row"] := by
  obtain ⟨fd, F⟩ := c.d.def_ 40 (d := d_BadHandlers) rfl
  have b : Binds K fd ["self", "index", "place", "row"] [] := F.bindsN fun _ _ _ _ _ _ us hl => match us, hl with | [_, _, _, _], _ => rfl
  have nd := sc_BadHandlers.nd
  have nf_index := He.eqO_ok (c.d.fact 80 (f := .noat "BadHandlers" "index") rfl)
  have nf_place := He.eqO_ok (c.d.fact 81 (f := .noat "BadHandlers" "place") rfl)
  have nf_row := He.eqO_ok (c.d.fact 82 (f := .noat "BadHandlers" "row") rfl)
  have fi := He.eqO_ok (He.ba (c.d.fact 83 (f := .meth "BadHandlers" "__init__") rfl)).1
  refine ⟨⟨He.ma K (He.ga K "BadHandlers") "__init__", fd, oexB_ok (c.b 15 rfl), fi, of_decide_eq_true (c.b 16 rfl), F.ok sc_BadHandlers (fun vs H Q E hh => ?_) (fun cdv A outer s H vs Q E hr hh => ⟨_, PSs.nox ?_, init3 hh⟩), b⟩, ?_, He.glo_ok kx G (c.d.fact 84 (f := .glo "BadHandlers") rfl)⟩
  · obtain ⟨a, xs, C, rfl, hl, _⟩ := hh; simp [hl]
  · exact (pss_cons (ps_ost (pv 0) (pv 1)) (pss_cons (ps_ost (pv 0) (pv 2)) (pss_one (ps_ost (pv 0) (pv 3)))))
  · intro f hf
    simp only [List.mem_cons, List.not_mem_nil, or_false] at hf
    rcases hf with rfl | rfl | rfl
    · exact nf_index
    · exact nf_place
    · exact nf_row
theorem sc__law_taken : FnScope ["_law_row", "_law_many", "_law_found", "_law_cell"] ["_law_row", "_law_many"] (defScope s__law_taken) := ⟨rfl, rfl, rfl, by decide +kernel, rfl, by decide +kernel, by decide +kernel⟩
theorem ok__law_taken {P : Program} {w : World} {K : PySem.W.Frag} {h : Heap} {mg : Str → Option Value} {base : Heap} (kx : K.In h) (G : h.Ns mainGlobals mg) (c : SaysX fa fn ts bs w K) : Fok P w K mg base "_law_taken" 1 ["_law_row", "_law_many"] f__law_taken := by
  have h_int := He.free_ok kx G (c.d.fact 0 (f := .free "int") rfl)
  have h_len := He.free_ok kx G (c.d.fact 1 (f := .free "len") rfl)
  obtain ⟨fd, F⟩ := c.d.def_ 0 (d := d__law_taken) rfl
  have b : Binds K fd ["_law_row", "_law_many"] [] := F.bindsN fun _ _ _ _ _ _ us hl => match us, hl with | [_, _], _ => rfl
  have nd := sc__law_taken.nd
  refine ⟨fd, fn_dl (k := 0) (O' := []) F sc__law_taken (by decide) fun cdv A outer s H E hr => ?_, b, F.kp, He.glo_ok kx G (c.d.fact 2 (f := .glo "_law_taken") rfl)⟩
  have hu64 := hu_64 hr
  have hu := hu_65 hr
  have tk := takes_of (X := cxOf (L2.CX P w) P w K mg base ["_law_row", "_law_many", "_law_found", "_law_cell"] "_law_taken" (defScope s__law_taken) (He.ga K "_law_taken") cdv A outer s H E) rfl rfl rfl rfl
  have ps := passes_of (X := cxOf (L2.CX P w) P w K mg base ["_law_row", "_law_many", "_law_found", "_law_cell"] "_law_taken" (defScope s__law_taken) (He.ga K "_law_taken") cdv A outer s H E) rfl
  exact (dss_cons (ds_if (O' := []) (dt_cmp (op_gtd) (de_sub hu64 (dv 0) de_int) de_int) (dss_cons (ds_set 2 (de_bin op_modd (de_callTy cr_int (by rfl) h_int (dab_cons (de_sub hu64 (dv 0) de_int) dab_nil)) (dv 1)) nd)
  (dss_cons (ds_putO (dv 0) de_int (de_bin op_divd (de_sub hu64 (dv 0) de_int) (dv 1)))
  (dss_one (ds_ret (dv 2))))) dss_nil)
  (dss_cons (ds_putO (dv 0) de_int (de_bin op_addd (de_sub hu64 (dv 0) de_int) de_int))
  (dss_cons (ds_if (O' := []) (dt_cmp (op_gtd) (de_sub hu64 (dv 0) de_int) (de_callB cr_len (by rfl) h_len (dab_cons (de_sub hu64 (dv 0) de_int) dab_nil))) (dss_cons (ds_putO (dv 0) de_int (de_bin op_modd (de_callTy cr_int (by rfl) h_int (dab_cons (de_bin op_addd (de_bin op_muld (de_sub hu64 (dv 0) de_int) de_int) de_int) dab_nil)) de_int))
  (dss_one (ds_ret (de_bin op_modd (de_callTy cr_int (by rfl) h_int (dab_cons (de_bin op_divd (de_sub hu64 (dv 0) de_int) de_int) dab_nil)) (dv 1))))) dss_nil)
  (dss_cons (ds_set 3 (de_sub hu64 (de_sub hu64 (dv 0) de_int) (de_bin op_subd (de_sub hu64 (dv 0) de_int) de_int)) nd)
  (dss_cons (ds_putO (dv 0) de_int (de_bin op_modd (de_callTy cr_int (by rfl) h_int (dab_cons (de_bin op_addd (de_bin op_addd (de_bin op_muld (de_sub hu64 (dv 0) de_int) de_int) (dv 3)) de_int) dab_nil)) de_int))
  (dss_cons (ds_if (O' := []) (dt_cmp (op_ged) (dv 3) (de_bin op_powd de_int de_int)) (dss_one (ds_putO (dv 0) de_int (de_bin op_divd (dv 3) (dv 1)))) dss_nil)
  (dss_one (ds_ret (de_bin op_modd (de_callTy cr_int (by rfl) h_int (dab_cons (dv 3) dab_nil)) (dv 1))))))))))
theorem sc__law_pick : FnScope ["_law_row", "_law_things"] ["_law_row", "_law_things"] (defScope s__law_pick) := ⟨rfl, rfl, rfl, by decide +kernel, rfl, by decide +kernel, by decide +kernel⟩
theorem ok__law_pick {P : Program} {w : World} {K : PySem.W.Frag} {h : Heap} {mg : Str → Option Value} {base : Heap} (kx : K.In h) (G : h.Ns mainGlobals mg) (c : SaysX fa fn ts bs w K) : Fok P w K mg base "_law_pick" 2 ["_law_row", "_law_things"] f__law_pick := by
  have o__law_taken := ok__law_taken (P := P) (w := w) (base := base) kx G c
  have h_len := He.free_ok kx G (c.d.fact 1 (f := .free "len") rfl)
  obtain ⟨fd, F⟩ := c.d.def_ 1 (d := d__law_pick) rfl
  have b : Binds K fd ["_law_row", "_law_things"] [] := F.bindsN fun _ _ _ _ _ _ us hl => match us, hl with | [_, _], _ => rfl
  have nd := sc__law_pick.nd
  refine ⟨fd, fn_dl (k := 1) (O' := []) F sc__law_pick (by decide) fun cdv A outer s H E hr => ?_, b, F.kp, He.glo_ok kx G (c.d.fact 3 (f := .glo "_law_pick") rfl)⟩
  have hu64 := hu_64 hr
  have hu := hu_65 hr
  have tk := takes_of (X := cxOf (L2.CX P w) P w K mg base ["_law_row", "_law_things"] "_law_pick" (defScope s__law_pick) (He.ga K "_law_pick") cdv A outer s H E) rfl rfl rfl rfl
  have ps := passes_of (X := cxOf (L2.CX P w) P w K mg base ["_law_row", "_law_things"] "_law_pick" (defScope s__law_pick) (He.ga K "_law_pick") cdv A outer s H E) rfl
  exact (dss_one (ds_ret (de_sub hu64 (dv 1) (de_fn o__law_taken (hr.mono (by decide)) tk (da_cons (dv 0) (da_cons (de_callB cr_len (by rfl) h_len (dab_cons (dv 1) dab_nil)) da_nil)) (aCons_len (aCons_len aNil_len))))))
theorem sc__law_tree : FnScope ["_law_row", "_law_many", "_law_names", "_law_way", "_law_found", "_law_at", "_law_some", "_law_upper", "_law_told"] ["_law_row", "_law_many"] (defScope s__law_tree) := ⟨rfl, rfl, rfl, by decide +kernel, rfl, by decide +kernel, by decide +kernel⟩
theorem ok__law_tree {P : Program} {w : World} {K : PySem.W.Frag} {h : Heap} {mg : Str → Option Value} {base : Heap} (kx : K.In h) (G : h.Ns mainGlobals mg) (c : SaysX fa fn ts bs w K) : Fok P w K mg base "_law_tree" 3 ["_law_row", "_law_many"] f__law_tree := by
  have o__law_taken := ok__law_taken (P := P) (w := w) (base := base) kx G c
  have o__law_pick := ok__law_pick (P := P) (w := w) (base := base) kx G c
  have h_range := He.free_ok kx G (c.d.fact 4 (f := .free "range") rfl)
  have h_len := He.free_ok kx G (c.d.fact 1 (f := .free "len") rfl)
  obtain ⟨fd, F⟩ := c.d.def_ 2 (d := d__law_tree) rfl
  have b : Binds K fd ["_law_row", "_law_many"] [] := F.bindsN fun _ _ _ _ _ _ us hl => match us, hl with | [_, _], _ => rfl
  have nd := sc__law_tree.nd
  refine ⟨fd, fn_dl (k := 2) (O' := []) F sc__law_tree (by decide) fun cdv A outer s H E hr => ?_, b, F.kp, He.glo_ok kx G (c.d.fact 5 (f := .glo "_law_tree") rfl)⟩
  have hu64 := hu_64 hr
  have hu := hu_65 hr
  have tk := takes_of (X := cxOf (L2.CX P w) P w K mg base ["_law_row", "_law_many", "_law_names", "_law_way", "_law_found", "_law_at", "_law_some", "_law_upper", "_law_told"] "_law_tree" (defScope s__law_tree) (He.ga K "_law_tree") cdv A outer s H E) rfl rfl rfl rfl
  have ps := passes_of (X := cxOf (L2.CX P w) P w K mg base ["_law_row", "_law_many", "_law_names", "_law_way", "_law_found", "_law_at", "_law_some", "_law_upper", "_law_told"] "_law_tree" (defScope s__law_tree) (He.ga K "_law_tree") cdv A outer s H E) rfl
  exact (dss_cons (ds_par3 2 3 4 (dak_e (DE.toE (de_lst (da_cons de_str (da_cons de_str (da_cons de_str (da_cons de_str (da_cons de_str (da_cons de_str (da_cons de_str (da_cons de_str da_nil)))))))))) (dak_e (de_fn o__law_taken (hr.mono (by decide)) tk (da_cons (dv 0) (da_cons de_int da_nil)) (aCons_len (aCons_len aNil_len))) (dak_f (de_lst da_nil) dak_nil))) nd)
  (dss_cons (ds_for ps (di_range1 (da_cons (dv 1) da_nil) h_range) (dg_name 5 nd) (dss_cons (ds_set 6 (de_bin op_addd (de_lst (da_cons de_str da_nil)) (de_lcE nd (blkOk_by (own := [(("_law_told" : Str), 8)]) (by kernel_rfl)) (die_own (dvb 4)) (gok_name 8) (fun _ _ _ _ _ => ((dg_name (O := []) 8 nd)).pg) town_name (fun _ _ _ _ _ => dcs_nil) (fun _ _ _ _ _ => (de_sub hu64 (dv 8) de_int)))) nd)
  (dss_cons (ds_set 7 (de_sub hu64 (de_lst (da_cons (de_sub hu64 (dv 6) (de_un un_negd de_int)) (da_cons (de_sub hu64 (dv 6) (de_bin op_modd (de_fn o__law_taken (hr.mono (by decide)) tk (da_cons (dv 0) (da_cons de_int da_nil)) (aCons_len (aCons_len aNil_len))) (de_callB cr_len (by rfl) h_len (dab_cons (dv 6) dab_nil)))) (da_cons (de_fn o__law_pick (hr.mono (by decide)) tk (da_cons (dv 0) (da_cons (dv 6) da_nil)) (aCons_len (aCons_len aNil_len))) da_nil)))) (dv 3)) nd)
  (dss_one (ds_app 4 (de_tup (da_cons (de_sub hu64 (dv 2) (dv 5)) (da_cons (dv 7) da_nil))))))))
  (dss_one (DS.pre (O1 := []) (ds_ret (dv 4))))))
theorem sc__law_begins : FnScope ["_law_row", "_law_tree_here", "_law_heads", "_law_found", "_law_names", "_law_above", "_law_name", "_law_upper", "_law_word", "_law_signs", "_law_code", "_law_at", "_law_other", "_law_ins", "_law_one", "_law_step", "_law_ahead", "_law_rows", "_law_methods"] ["_law_row"] (defScope s__law_begins) := ⟨rfl, rfl, rfl, by decide +kernel, rfl, by decide +kernel, by decide +kernel⟩
theorem ok__law_begins {P : Program} {w : World} {K : PySem.W.Frag} {h : Heap} {mg : Str → Option Value} {base : Heap} (kx : K.In h) (G : h.Ns mainGlobals mg) (c : SaysX fa fn ts bs w K) : Fok P w K mg base "_law_begins" 4 ["_law_row"] f__law_begins := by
  have o__law_tree := ok__law_tree (P := P) (w := w) (base := base) kx G c
  have o__law_taken := ok__law_taken (P := P) (w := w) (base := base) kx G c
  have o__law_pick := ok__law_pick (P := P) (w := w) (base := base) kx G c
  have h_range := He.free_ok kx G (c.d.fact 4 (f := .free "range") rfl)
  have h_len := He.free_ok kx G (c.d.fact 1 (f := .free "len") rfl)
  have h_tuple := He.free_ok kx G (c.d.fact 6 (f := .free "tuple") rfl)
  obtain ⟨fd, F⟩ := c.d.def_ 3 (d := d__law_begins) rfl
  have b : Binds K fd ["_law_row"] [] := F.bindsN fun _ _ _ _ _ _ us hl => match us, hl with | [_], _ => rfl
  have nd := sc__law_begins.nd
  refine ⟨fd, fn_dl (k := 3) (O' := []) F sc__law_begins (by decide) fun cdv A outer s H E hr => ?_, b, F.kp, He.glo_ok kx G (c.d.fact 7 (f := .glo "_law_begins") rfl)⟩
  have hu64 := hu_64 hr
  have hu := hu_65 hr
  have tk := takes_of (X := cxOf (L2.CX P w) P w K mg base ["_law_row", "_law_tree_here", "_law_heads", "_law_found", "_law_names", "_law_above", "_law_name", "_law_upper", "_law_word", "_law_signs", "_law_code", "_law_at", "_law_other", "_law_ins", "_law_one", "_law_step", "_law_ahead", "_law_rows", "_law_methods"] "_law_begins" (defScope s__law_begins) (He.ga K "_law_begins") cdv A outer s H E) rfl rfl rfl rfl
  have ps := passes_of (X := cxOf (L2.CX P w) P w K mg base ["_law_row", "_law_tree_here", "_law_heads", "_law_found", "_law_names", "_law_above", "_law_name", "_law_upper", "_law_word", "_law_signs", "_law_code", "_law_at", "_law_other", "_law_ins", "_law_one", "_law_step", "_law_ahead", "_law_rows", "_law_methods"] "_law_begins" (defScope s__law_begins) (He.ga K "_law_begins") cdv A outer s H E) rfl
  exact (dss_cons (ds_parT [1, 2, 3] (dak_e (de_fn o__law_tree (hr.mono (by decide)) tk (da_cons (dv 0) (da_cons (de_bin op_addd de_int (de_fn o__law_taken (hr.mono (by decide)) tk (da_cons (dv 0) (da_cons de_int da_nil)) (aCons_len (aCons_len aNil_len)))) da_nil)) (aCons_len (aCons_len aNil_len))) (dak_f de_newK (dak_f (de_lst da_nil) dak_nil))) (pgs_cons (pg_name nd (by rfl) (by first | exact Or.inl rfl | exact Or.inr rfl) (by first | exact .inl rfl | exact .inr rfl)) (pgs_cons (pg_name nd (by rfl) (by first | exact Or.inl rfl | exact Or.inr rfl) (by first | exact .inl rfl | exact .inr rfl)) (pgs_cons (pg_name nd (by rfl) (by first | exact Or.inl rfl | exact Or.inr rfl) (by first | exact .inl rfl | exact .inr rfl)) pgs_nil))))
  (dss_cons (ds_par 4 5 (dak_e (DE.toE (de_lc nd (blkOk_by (own := [(("_law_name" : Str), 6), (("_law_upper" : Str), 7)]) (by kernel_rfl)) (di_seq (dv 1)) (gok_tup (goks_cons (gok_name 6) (goks_cons (gok_name 7) goks_nil))) (fun _ _ _ _ _ => ((dg_tup (dgs_cons (dg_name (O := []) 6 nd) (dgs_cons (dg_name (O := []) 7 nd) (dgs_nil (O := [])))))).pg) (town_tup (towns_cons town_name (towns_cons town_name towns_nil mono_name mono_nil) mono_name (mono_cons mono_name mono_nil))) (fun _ _ _ _ _ => dcs_nil) (fun _ _ _ _ _ => (dv 6)))) (dak_f de_newK dak_nil)) nd)
  (dss_cons (ds_for ps (di_seq (dv 1)) (dg_tup (dgs_cons (dg_name 6 nd) (dgs_cons (dg_name 7 nd) dgs_nil))) (dss_cons (ds_put 5 hu64 (dv 6) (de_bin op_addd (de_lst (da_cons (dv 6) da_nil)) (de_ifx (k := .e) (dt_cmp (op_ned hu64) (dv 7) de_str) (de_sub hu64 (dvb 5) (dv 7)) (DE.toE (de_lst da_nil)))))
  (dss_cons (ds_set 8 (de_fn o__law_pick (hr.mono (by decide)) tk (da_cons (dv 0) (da_cons (DE.toE (de_lst (da_cons de_str (da_cons de_str (da_cons de_str (da_cons de_str da_nil)))))) da_nil)) (aCons_len (aCons_len aNil_len))) nd)
  (dss_one (ds_if (O' := [5, 3, 2]) (dt_cmp (op_gtd) (de_fn o__law_taken (hr.mono (by decide)) tk (da_cons (dv 0) (da_cons de_int da_nil)) (aCons_len (aCons_len aNil_len))) de_int) (dss_cons (ds_lcSet 9 nd (blkOk_by (own := [(("_law_one" : Str), 14)]) (by kernel_rfl)) (di_seq (de_sl (de_sub hu64 (dvb 5) (dv 6)) (do_some de_int) do_none)) (gok_name 14) (fun _ _ _ _ _ => ((dg_name (O := []) 14 nd)).pg) town_name (fun _ _ _ _ _ => (dcs_one (dt_bool (dw_and (dt_cmp (op_ind hu) (dv 14) (dvb 2)) (dw_and1 (dt_cmp (op_eqd hu64) (de_sub hu64 (de_sub hu64 (dvb 2) (dv 14)) de_int) (dv 8))))))) (fun _ _ _ _ _ => (de_sub hu64 (de_sub hu64 (dvb 2) (dv 14)) de_int)) (by rfl))
  (dss_one (ds_put 2 hu64 (dv 6) (de_tup (da_cons (dv 8) (da_cons (de_sub hu64 (de_bin op_addd (dv 9) (de_lst (da_cons (de_ifx (k := .e) (dt_cmp (op_eqd hu64) (de_fn o__law_taken (hr.mono (by decide)) tk (da_cons (dv 0) (da_cons de_int da_nil)) (aCons_len (aCons_len aNil_len))) de_int) (de_tup (da_cons de_str da_nil)) (de_tup da_nil)) da_nil))) de_int) da_nil)))))) dss_nil)))))
  (dss_cons (ds_for ps (di_seq (dv 1)) (dg_tup (dgs_cons (dg_name 6 nd) (dgs_cons (dg_name 7 nd) dgs_nil))) (dss_cons (ds_set 10 (de_tup da_nil) nd)
  (dss_cons (ds_for ps (di_range1 (da_cons (de_fn o__law_taken (hr.mono (by decide)) tk (da_cons (dv 0) (da_cons de_int da_nil)) (aCons_len (aCons_len aNil_len))) da_nil) h_range) (dg_name 11 nd) (dss_cons (ds_set 12 (de_fn o__law_pick (hr.mono (by decide)) tk (da_cons (dv 0) (da_cons (de_bin op_addd (dv 4) (de_lst (da_cons de_str da_nil))) da_nil)) (aCons_len (aCons_len aNil_len))) nd)
  (dss_cons (ds_parT [8, 13] (dak_e (de_fn o__law_pick (hr.mono (by decide)) tk (da_cons (dv 0) (da_cons (DE.toE (de_lst (da_cons de_str (da_cons de_str (da_cons de_str (da_cons de_str (da_cons de_str da_nil))))))) da_nil)) (aCons_len (aCons_len aNil_len))) (dak_e de_non dak_nil)) (pgs_cons (pg_name nd (by rfl) (by first | exact Or.inl rfl | exact Or.inr rfl) (by first | exact .inl rfl | exact .inr rfl)) (pgs_cons (pg_name nd (by rfl) (by first | exact Or.inl rfl | exact Or.inr rfl) (by first | exact .inl rfl | exact .inr rfl)) pgs_nil)))
  (dss_cons (ds_for ps (di_seq (de_ifx (k := .e) (dt_cmp (op_ned hu64) (dv 12) de_str) (de_sub hu64 (dvb 5) (dv 12)) (DE.toE (de_lst da_nil)))) (dg_name 14 nd) (dss_one (ds_set 13 (de_ifx (k := .e) (dt_bool (dw_and (dt_isN (dv 13)) (dw_and (dt_cmp (op_ind hu) (dv 14) (dvb 2)) (dw_and1 (dt_cmp (op_eqd hu64) (de_sub hu64 (de_sub hu64 (dvb 2) (dv 14)) de_int) de_str))))) (de_sub hu64 (de_sub hu64 (dvb 2) (dv 14)) de_int) (dv 13)) nd)))
  (dss_cons (ds_set 15 (de_ifx (k := .e) (dt_cmp (op_eqd hu64) (dv 8) de_str) (de_tup (da_cons de_str (da_cons (dv 12) (da_cons de_str da_nil)))) (de_tup (da_cons (dv 8) (da_cons (dv 12) da_nil)))) nd)
  (dss_cons (ds_set 15 (de_ifx (k := .e) (dt_bool (dw_and (dt_cmp (op_eqd hu64) (dv 8) de_str) (dw_and1 (dt_isN (dv 13))))) (de_tup (da_cons de_str (da_cons (dv 12) da_nil))) (dv 15)) nd)
  (dss_cons (ds_set 16 (de_ifx (k := .e) (dt_cmp (op_eqd hu64) (de_sub hu64 (dv 15) de_int) de_str) (de_tup da_nil) (de_tup (da_cons (de_tup (da_cons de_str da_nil)) da_nil))) nd)
  (dss_one (ds_set 10 (de_bin op_addd (de_bin op_addd (de_bin op_addd (dv 10) (dv 16)) (de_bin op_repTd (de_tup (da_cons (de_tup (da_cons de_str (da_cons de_int da_nil))) da_nil)) (de_ifx (k := .e) (dt_cmp (op_eqd hu64) (de_sub hu64 (dv 15) de_int) de_str) (de_callB cr_len (by rfl) h_len (dab_cons (dv 13) dab_nil)) de_int))) (de_tup (da_cons (dv 15) (da_cons (de_tup (da_cons de_str da_nil)) da_nil)))) nd)))))))))
  (dss_cons (ds_set 10 (de_bin op_addd (dv 10) (de_tup (da_cons (de_tup (da_cons de_str (da_cons de_int da_nil))) (da_cons (de_tup (da_cons de_str da_nil)) da_nil)))) nd)
  (dss_cons (ds_set 17 (de_ifx (k := .e) (dt_cmp (op_eqd hu64) (de_fn o__law_taken (hr.mono (by decide)) tk (da_cons (dv 0) (da_cons de_int da_nil)) (aCons_len (aCons_len aNil_len))) de_int) (de_tup (da_cons (de_tup (da_cons de_int (da_cons de_int (da_cons (de_fn o__law_pick (hr.mono (by decide)) tk (da_cons (dv 0) (da_cons (de_bin op_addd (dv 4) (de_lst (da_cons de_str da_nil))) da_nil)) (aCons_len (aCons_len aNil_len))) (da_cons de_int da_nil))))) da_nil)) (de_tup da_nil)) nd)
  (dss_cons (ds_set 18 (de_ifx (k := .e) (dt_cmp (op_ind hu) (dv 6) (dvb 2)) (de_tup (da_cons (de_bin op_addd (de_sub hu64 (dvb 2) (dv 6)) (de_tup (da_cons de_str (da_cons (dv 10) (da_cons (dv 17) da_nil))))) da_nil)) (de_tup da_nil)) nd)
  (dss_one (ds_app 3 (de_tup (da_cons (dv 6) (da_cons (dv 7) (da_cons (de_tup da_nil) (da_cons (dv 18) da_nil)))))))))))))
  (dss_one (ds_ret (de_tup (da_cons (de_callTy cr_tup (by rfl) h_tuple (dab_cons (dvb 3) dab_nil)) (da_cons (dv 4) da_nil)))))))))
theorem sc_names_of : FnScope ["classes", "told"] ["classes"] (defScope s_names_of) := ⟨rfl, rfl, rfl, by decide +kernel, rfl, by decide +kernel, by decide +kernel⟩
theorem ok_names_of {P : Program} {w : World} {K : PySem.W.Frag} {h : Heap} {mg : Str → Option Value} {base : Heap} (kx : K.In h) (G : h.Ns mainGlobals mg) (c : SaysX fa fn ts bs w K) : Fok P w K mg base "names_of" 1 ["classes"] f_names_of := by
  have g_TOP := He.str_ok kx G (c.d.fact 8 (f := .str "TOP" ("top" : Str)) rfl)
  obtain ⟨fd, F⟩ := c.d.def_ 4 (d := d_names_of) rfl
  have b : Binds K fd ["classes"] [] := F.bindsN fun _ _ _ _ _ _ us hl => match us, hl with | [_], _ => rfl
  have nd := sc_names_of.nd
  refine ⟨fd, fn_dl (k := 0) (O' := []) F sc_names_of (by decide) fun cdv A outer s H E hr => ?_, b, F.kp, He.glo_ok kx G (c.d.fact 9 (f := .glo "names_of") rfl)⟩
  have hu64 := hu_64 hr
  have hu := hu_65 hr
  have tk := takes_of (X := cxOf (L2.CX P w) P w K mg base ["classes", "told"] "names_of" (defScope s_names_of) (He.ga K "names_of") cdv A outer s H E) rfl rfl rfl rfl
  have ps := passes_of (X := cxOf (L2.CX P w) P w K mg base ["classes", "told"] "names_of" (defScope s_names_of) (He.ga K "names_of") cdv A outer s H E) rfl
  exact (dss_one (ds_ret (DE.toE (de_lst (da_cons (de_gstr g_TOP) (da_star (de_lc nd (blkOk_by (own := [(("told" : Str), 1)]) (by kernel_rfl)) (di_seq (dv 0)) (gok_name 1) (fun _ _ _ _ _ => ((dg_name (O := []) 1 nd)).pg) town_name (fun _ _ _ _ _ => dcs_nil) (fun _ _ _ _ _ => (de_sub hu64 (dv 1) de_int))) da_nil))))))
theorem sc_is_list : FnScope ["value", "most"] ["value", "most"] (defScope s_is_list) := ⟨rfl, rfl, rfl, by decide +kernel, rfl, by decide +kernel, by decide +kernel⟩
theorem ok_is_list {P : Program} {w : World} {K : PySem.W.Frag} {h : Heap} {mg : Str → Option Value} {base : Heap} (kx : K.In h) (G : h.Ns mainGlobals mg) (c : SaysX fa fn ts bs w K) : Fok P w K mg base "is_list" 1 ["value", "most"] f_is_list := by
  have h_isinstance := He.free_ok kx G (c.d.fact 10 (f := .free "isinstance") rfl)
  have h_tuple := He.free_ok kx G (c.d.fact 6 (f := .free "tuple") rfl)
  have h_len := He.free_ok kx G (c.d.fact 1 (f := .free "len") rfl)
  obtain ⟨fd, F⟩ := c.d.def_ 5 (d := d_is_list) rfl
  have b : Binds K fd ["value", "most"] [] := F.bindsN fun _ _ _ _ _ _ us hl => match us, hl with | [_, _], _ => rfl
  have nd := sc_is_list.nd
  refine ⟨fd, fn_dl (k := 0) (O' := []) F sc_is_list (by decide) fun cdv A outer s H E hr => ?_, b, F.kp, He.glo_ok kx G (c.d.fact 11 (f := .glo "is_list") rfl)⟩
  have hu64 := hu_64 hr
  have hu := hu_65 hr
  have tk := takes_of (X := cxOf (L2.CX P w) P w K mg base ["value", "most"] "is_list" (defScope s_is_list) (He.ga K "is_list") cdv A outer s H E) rfl rfl rfl rfl
  have ps := passes_of (X := cxOf (L2.CX P w) P w K mg base ["value", "most"] "is_list" (defScope s_is_list) (He.ga K "is_list") cdv A outer s H E) rfl
  exact (dss_one (ds_ret (de_and (de_isi (is_tuple) (dv 0) (pe_bltn (by rfl) h_tuple (by rfl) (by rfl)) (.ty _) h_isinstance) (de_one (de_cmp (op_led) (de_callB cr_len (by rfl) h_len (dab_cons (dv 0) dab_nil)) (dv 1))))))
theorem sc_is_word : FnScope ["value", "sign"] ["value"] (defScope s_is_word) := ⟨rfl, rfl, rfl, by decide +kernel, rfl, by decide +kernel, by decide +kernel⟩
theorem ok_is_word {P : Program} {w : World} {K : PySem.W.Frag} {h : Heap} {mg : Str → Option Value} {base : Heap} (kx : K.In h) (G : h.Ns mainGlobals mg) (c : SaysX fa fn ts bs w K) : Fok P w K mg base "is_word" 1 ["value"] f_is_word := by
  have h_isinstance := He.free_ok kx G (c.d.fact 10 (f := .free "isinstance") rfl)
  have h_str := He.free_ok kx G (c.d.fact 12 (f := .free "str") rfl)
  have h_len := He.free_ok kx G (c.d.fact 1 (f := .free "len") rfl)
  have h_all := He.free_ok kx G (c.d.fact 13 (f := .free "all") rfl)
  have g_LETTERS := He.str_ok kx G (c.d.fact 14 (f := .str "LETTERS" ("abcdefghijklmnopqrstuvwxyz" : Str)) rfl)
  obtain ⟨fd, F⟩ := c.d.def_ 6 (d := d_is_word) rfl
  have b : Binds K fd ["value"] [] := F.bindsN fun _ _ _ _ _ _ us hl => match us, hl with | [_], _ => rfl
  have nd := sc_is_word.nd
  refine ⟨fd, fn_dl (k := 0) (O' := []) F sc_is_word (by decide) fun cdv A outer s H E hr => ?_, b, F.kp, He.glo_ok kx G (c.d.fact 15 (f := .glo "is_word") rfl)⟩
  have hu64 := hu_64 hr
  have hu := hu_65 hr
  have tk := takes_of (X := cxOf (L2.CX P w) P w K mg base ["value", "sign"] "is_word" (defScope s_is_word) (He.ga K "is_word") cdv A outer s H E) rfl rfl rfl rfl
  have ps := passes_of (X := cxOf (L2.CX P w) P w K mg base ["value", "sign"] "is_word" (defScope s_is_word) (He.ga K "is_word") cdv A outer s H E) rfl
  exact (dss_one (ds_ret (de_and (de_isi (is_str) (dv 0) (pe_bltn (by rfl) h_str (by rfl) (by rfl)) (.ty _) h_isinstance) (de_and (de_chain (op_led) (op_led) de_int (de_callB cr_len (by rfl) h_len (dab_cons (dv 0) dab_nil)) de_int) (de_one (de_callB (cr_allD rfl) (by rfl) h_all (dab_cons (de_lc nd (blkOk_by (own := [(("sign" : Str), 1)]) (by kernel_rfl)) (di_str (dv 0)) (gok_name 1) (fun _ _ _ _ _ => ((dg_name (O := []) 1 nd)).pg) town_name (fun _ _ _ _ _ => dcs_nil) (fun _ _ _ _ _ => (de_cmp (op_sign) (dv 1) (de_gstr g_LETTERS)))) dab_nil)))))))
theorem sc_is_class : FnScope ["classes", "value"] ["classes", "value"] (defScope s_is_class) := ⟨rfl, rfl, rfl, by decide +kernel, rfl, by decide +kernel, by decide +kernel⟩
theorem ok_is_class {P : Program} {w : World} {K : PySem.W.Frag} {h : Heap} {mg : Str → Option Value} {base : Heap} (kx : K.In h) (G : h.Ns mainGlobals mg) (c : SaysX fa fn ts bs w K) : Fok P w K mg base "is_class" 2 ["classes", "value"] f_is_class := by
  have o_is_word := ok_is_word (P := P) (w := w) (base := base) kx G c
  have o_names_of := ok_names_of (P := P) (w := w) (base := base) kx G c
  have h_isinstance := He.free_ok kx G (c.d.fact 10 (f := .free "isinstance") rfl)
  have h_tuple := He.free_ok kx G (c.d.fact 6 (f := .free "tuple") rfl)
  have h_len := He.free_ok kx G (c.d.fact 1 (f := .free "len") rfl)
  have g_BARRED := He.glo_ok kx G (c.d.fact 16 (f := .glo "BARRED") rfl)
  have gt_BARRED := c.b 0 rfl
  obtain ⟨fd, F⟩ := c.d.def_ 7 (d := d_is_class) rfl
  have b : Binds K fd ["classes", "value"] [] := F.bindsN fun _ _ _ _ _ _ us hl => match us, hl with | [_, _], _ => rfl
  have nd := sc_is_class.nd
  refine ⟨fd, fn_dl (k := 1) (O' := []) F sc_is_class (by decide) fun cdv A outer s H E hr => ?_, b, F.kp, He.glo_ok kx G (c.d.fact 17 (f := .glo "is_class") rfl)⟩
  have hu64 := hu_64 hr
  have hu := hu_65 hr
  have tk := takes_of (X := cxOf (L2.CX P w) P w K mg base ["classes", "value"] "is_class" (defScope s_is_class) (He.ga K "is_class") cdv A outer s H E) rfl rfl rfl rfl
  have ps := passes_of (X := cxOf (L2.CX P w) P w K mg base ["classes", "value"] "is_class" (defScope s_is_class) (He.ga K "is_class") cdv A outer s H E) rfl
  exact (dss_cons (ds_if (O' := []) (dt_bool (dw_or (dt_not (dt_val (de_isi (is_tuple) (dv 1) (pe_bltn (by rfl) h_tuple (by rfl) (by rfl)) (.ty _) h_isinstance))) (dw_or (dt_cmp (op_ned hu64) (de_callB cr_len (by rfl) h_len (dab_cons (dv 1) dab_nil)) de_int) (dw_or1 (dt_not (dt_val (de_fn o_is_word (hr.mono (by decide)) tk (da_cons (de_sub hu64 (dv 1) de_int) da_nil) (aCons_len aNil_len)))))))) (dss_one (ds_ret de_bl)) dss_nil)
  (dss_cons (ds_if (O' := []) (dt_bool (dw_or (dt_cmp (op_ind hu) (de_sub hu64 (dv 1) de_int) (de_gtup (ts := [.str ("top" : Str), .str ("num" : Str), .str ("none" : Str), .str ("odd" : Str), .str ("unset" : Str)]) g_BARRED gt_BARRED)) (dw_or1 (dt_cmp (op_ind hu) (de_sub hu64 (dv 1) de_int) (de_fn o_names_of (hr.mono (by decide)) tk (da_cons (dv 0) da_nil) (aCons_len aNil_len)))))) (dss_one (ds_ret de_bl)) dss_nil)
  (dss_one (ds_ret (de_and (de_fn o_is_word (hr.mono (by decide)) tk (da_cons (de_sub hu64 (dv 1) de_int) da_nil) (aCons_len aNil_len)) (de_one (de_cmp (op_ind hu) (de_sub hu64 (dv 1) de_int) (de_fn o_names_of (hr.mono (by decide)) tk (da_cons (dv 0) da_nil) (aCons_len aNil_len)))))))))
theorem sc_row_of : FnScope ["classes", "name", "found", "told"] ["classes", "name"] (defScope s_row_of) := ⟨rfl, rfl, rfl, by decide +kernel, rfl, by decide +kernel, by decide +kernel⟩
theorem ok_row_of {P : Program} {w : World} {K : PySem.W.Frag} {h : Heap} {mg : Str → Option Value} {base : Heap} (kx : K.In h) (G : h.Ns mainGlobals mg) (c : SaysX fa fn ts bs w K) : Fok P w K mg base "row_of" 1 ["classes", "name"] f_row_of := by
  obtain ⟨fd, F⟩ := c.d.def_ 8 (d := d_row_of) rfl
  have b : Binds K fd ["classes", "name"] [] := F.bindsN fun _ _ _ _ _ _ us hl => match us, hl with | [_, _], _ => rfl
  have nd := sc_row_of.nd
  refine ⟨fd, fn_dl (k := 0) (O' := []) F sc_row_of (by decide) fun cdv A outer s H E hr => ?_, b, F.kp, He.glo_ok kx G (c.d.fact 18 (f := .glo "row_of") rfl)⟩
  have hu64 := hu_64 hr
  have hu := hu_65 hr
  have tk := takes_of (X := cxOf (L2.CX P w) P w K mg base ["classes", "name", "found", "told"] "row_of" (defScope s_row_of) (He.ga K "row_of") cdv A outer s H E) rfl rfl rfl rfl
  have ps := passes_of (X := cxOf (L2.CX P w) P w K mg base ["classes", "name", "found", "told"] "row_of" (defScope s_row_of) (He.ga K "row_of") cdv A outer s H E) rfl
  exact (dss_cons (ds_own 2 (de_lst da_nil) nd)
  (dss_cons (ds_for ps (di_seq (de_revA (dv 0))) (dg_name 3 nd) (dss_one (ds_if (O' := [2]) (dt_cmp (op_eqd hu64) (de_sub hu64 (dv 3) de_int) (dv 1)) (dss_cons (ds_app 2 (dv 3))
  (dss_one (ds_set 1 (de_sub hu64 (dv 3) de_int) nd))) dss_nil)))
  (dss_one (DS.pre (O1 := []) (ds_ret (dv 2))))))
theorem sc_are_fields : FnScope ["classes", "names", "told", "seen", "field", "upper"] ["classes", "names", "told"] (defScope s_are_fields) := ⟨rfl, rfl, rfl, by decide +kernel, rfl, by decide +kernel, by decide +kernel⟩
theorem ok_are_fields {P : Program} {w : World} {K : PySem.W.Frag} {h : Heap} {mg : Str → Option Value} {base : Heap} (kx : K.In h) (G : h.Ns mainGlobals mg) (c : SaysX fa fn ts bs w K) : Fok P w K mg base "are_fields" 2 ["classes", "names", "told"] f_are_fields := by
  have o_is_list := ok_is_list (P := P) (w := w) (base := base) kx G c
  have o_row_of := ok_row_of (P := P) (w := w) (base := base) kx G c
  have o_is_word := ok_is_word (P := P) (w := w) (base := base) kx G c
  have h_isinstance := He.free_ok kx G (c.d.fact 10 (f := .free "isinstance") rfl)
  have h_tuple := He.free_ok kx G (c.d.fact 6 (f := .free "tuple") rfl)
  have h_len := He.free_ok kx G (c.d.fact 1 (f := .free "len") rfl)
  have g_NUM := He.str_ok kx G (c.d.fact 19 (f := .str "NUM" ("num" : Str)) rfl)
  have g_MOST_PARTS := He.int_ok kx G (c.d.fact 20 (f := .int "MOST_PARTS" 4) rfl)
  obtain ⟨fd, F⟩ := c.d.def_ 9 (d := d_are_fields) rfl
  have b : Binds K fd ["classes", "names", "told"] [] := F.bindsN fun _ _ _ _ _ _ us hl => match us, hl with | [_, _, _], _ => rfl
  have nd := sc_are_fields.nd
  refine ⟨fd, fn_dl (k := 1) (O' := []) F sc_are_fields (by decide) fun cdv A outer s H E hr => ?_, b, F.kp, He.glo_ok kx G (c.d.fact 21 (f := .glo "are_fields") rfl)⟩
  have hu64 := hu_64 hr
  have hu := hu_65 hr
  have tk := takes_of (X := cxOf (L2.CX P w) P w K mg base ["classes", "names", "told", "seen", "field", "upper"] "are_fields" (defScope s_are_fields) (He.ga K "are_fields") cdv A outer s H E) rfl rfl rfl rfl
  have ps := passes_of (X := cxOf (L2.CX P w) P w K mg base ["classes", "names", "told", "seen", "field", "upper"] "are_fields" (defScope s_are_fields) (He.ga K "are_fields") cdv A outer s H E) rfl
  exact (dss_cons (ds_if (O' := []) (dt_not (dt_val (de_fn o_is_list (hr.mono (by decide)) tk (da_cons (de_sub hu64 (dv 2) de_int) (da_cons (de_gint g_MOST_PARTS) da_nil)) (aCons_len (aCons_len aNil_len))))) (dss_one (ds_ret de_bl)) dss_nil)
  (dss_cons (ds_lc2Own 3 nd (blkOk_by (own := [(("upper" : Str), 5), (("field" : Str), 4)]) (by kernel_rfl)) (vs1 := [4]) (by decide) (di_seq (de_fn o_row_of (hr.mono (by decide)) tk (da_cons (dv 0) (da_cons (de_sub hu64 (dv 2) de_int) da_nil)) (aCons_len (aCons_len aNil_len)))) (gok_name 5) (fun _ _ _ _ _ => ((dg_name (O := []) 5 nd)).pg) town_name (fun _ _ _ _ _ => dcs_nil) (fun _ _ _ _ _ => (di_seq (de_sub hu64 (dv 5) de_int))) (gok_name 4) (fun _ _ _ _ _ => ((dg_name (O := []) 4 nd)).pg) town_name (fun _ _ _ _ _ => dcs_nil) (fun _ _ _ _ _ => (de_sub hu64 (dv 4) de_int)) (by rfl))
  (dss_cons (ds_for ps (di_seq (de_sub hu64 (dv 2) de_int)) (dg_name 4 nd) (dss_cons (ds_if (O' := [3]) (dt_bool (dw_or (dt_not (dt_val (de_isi (is_tuple) (dv 4) (pe_bltn (by rfl) h_tuple (by rfl) (by rfl)) (.ty _) h_isinstance))) (dw_or (dt_cmp (op_ned hu64) (de_callB cr_len (by rfl) h_len (dab_cons (dv 4) dab_nil)) de_int) (dw_or (dt_not (dt_val (de_fn o_is_word (hr.mono (by decide)) tk (da_cons (de_sub hu64 (dv 4) de_int) da_nil) (aCons_len aNil_len)))) (dw_or1 (dt_cmp (op_ind hu) (de_sub hu64 (dv 4) de_int) (dvb 3))))))) (dss_one (ds_ret de_bl)) dss_nil)
  (dss_cons (ds_if (O' := [3]) (dt_bool (dw_or (dt_not (dt_val (de_fn o_is_word (hr.mono (by decide)) tk (da_cons (de_sub hu64 (dv 4) de_int) da_nil) (aCons_len aNil_len)))) (dw_or1 (dt_bool (dw_and (dt_cmp (op_ned hu64) (de_sub hu64 (dv 4) de_int) (de_gstr g_NUM)) (dw_and1 (dt_cmp (op_notInd hu) (de_sub hu64 (dv 4) de_int) (dv 1)))))))) (dss_one (ds_ret de_bl)) dss_nil)
  (dss_one (ds_app 3 (de_sub hu64 (dv 4) de_int))))))
  (dss_one (ds_ret de_bl)))))
theorem sc_has_seen : FnScope ["classes", "name", "word", "part", "told", "one"] ["classes", "name", "word", "part"] (defScope s_has_seen) := ⟨rfl, rfl, rfl, by decide +kernel, rfl, by decide +kernel, by decide +kernel⟩
theorem ok_has_seen {P : Program} {w : World} {K : PySem.W.Frag} {h : Heap} {mg : Str → Option Value} {base : Heap} (kx : K.In h) (G : h.Ns mainGlobals mg) (c : SaysX fa fn ts bs w K) : Fok P w K mg base "has_seen" 2 ["classes", "name", "word", "part"] f_has_seen := by
  have o_row_of := ok_row_of (P := P) (w := w) (base := base) kx G c
  have h_any := He.free_ok kx G (c.d.fact 22 (f := .free "any") rfl)
  obtain ⟨fd, F⟩ := c.d.def_ 10 (d := d_has_seen) rfl
  have b : Binds K fd ["classes", "name", "word", "part"] [] := F.bindsN fun _ _ _ _ _ _ us hl => match us, hl with | [_, _, _, _], _ => rfl
  have nd := sc_has_seen.nd
  refine ⟨fd, fn_dl (k := 1) (O' := []) F sc_has_seen (by decide) fun cdv A outer s H E hr => ?_, b, F.kp, He.glo_ok kx G (c.d.fact 23 (f := .glo "has_seen") rfl)⟩
  have hu64 := hu_64 hr
  have hu := hu_65 hr
  have tk := takes_of (X := cxOf (L2.CX P w) P w K mg base ["classes", "name", "word", "part", "told", "one"] "has_seen" (defScope s_has_seen) (He.ga K "has_seen") cdv A outer s H E) rfl rfl rfl rfl
  have ps := passes_of (X := cxOf (L2.CX P w) P w K mg base ["classes", "name", "word", "part", "told", "one"] "has_seen" (defScope s_has_seen) (He.ga K "has_seen") cdv A outer s H E) rfl
  exact (dss_one (ds_ret (de_callB (cr_anyD rfl) (by rfl) h_any (dab_cons (de_lc2 nd (blkOk_by (own := [(("told" : Str), 4), (("one" : Str), 5)]) (by kernel_rfl)) (vs1 := [5]) (by decide) (di_seq (de_fn o_row_of (hr.mono (by decide)) tk (da_cons (dv 0) (da_cons (dv 1) da_nil)) (aCons_len (aCons_len aNil_len)))) (gok_name 4) (fun _ _ _ _ _ => ((dg_name (O := []) 4 nd)).pg) town_name (fun _ _ _ _ _ => dcs_nil) (fun _ _ _ _ _ => (di_seq (de_sub hu64 (dv 4) (dv 3)))) (gok_name 5) (fun _ _ _ _ _ => ((dg_name (O := []) 5 nd)).pg) town_name (fun _ _ _ _ _ => dcs_nil) (fun _ _ _ _ _ => (de_cmp (op_eqd hu64) (de_sub hu64 (dv 5) de_int) (dv 2)))) dab_nil))))
theorem sc_is_in : FnScope ["value", "least", "most"] ["value", "least", "most"] (defScope s_is_in) := ⟨rfl, rfl, rfl, by decide +kernel, rfl, by decide +kernel, by decide +kernel⟩
theorem ok_is_in {P : Program} {w : World} {K : PySem.W.Frag} {h : Heap} {mg : Str → Option Value} {base : Heap} (kx : K.In h) (G : h.Ns mainGlobals mg) (c : SaysX fa fn ts bs w K) : Fok P w K mg base "is_in" 1 ["value", "least", "most"] f_is_in := by
  have h_isinstance := He.free_ok kx G (c.d.fact 10 (f := .free "isinstance") rfl)
  have h_int := He.free_ok kx G (c.d.fact 0 (f := .free "int") rfl)
  have h_bool := He.free_ok kx G (c.d.fact 24 (f := .free "bool") rfl)
  obtain ⟨fd, F⟩ := c.d.def_ 11 (d := d_is_in) rfl
  have b : Binds K fd ["value", "least", "most"] [] := F.bindsN fun _ _ _ _ _ _ us hl => match us, hl with | [_, _, _], _ => rfl
  have nd := sc_is_in.nd
  refine ⟨fd, fn_dl (k := 0) (O' := []) F sc_is_in (by decide) fun cdv A outer s H E hr => ?_, b, F.kp, He.glo_ok kx G (c.d.fact 25 (f := .glo "is_in") rfl)⟩
  have hu64 := hu_64 hr
  have hu := hu_65 hr
  have tk := takes_of (X := cxOf (L2.CX P w) P w K mg base ["value", "least", "most"] "is_in" (defScope s_is_in) (He.ga K "is_in") cdv A outer s H E) rfl rfl rfl rfl
  have ps := passes_of (X := cxOf (L2.CX P w) P w K mg base ["value", "least", "most"] "is_in" (defScope s_is_in) (He.ga K "is_in") cdv A outer s H E) rfl
  exact (dss_one (ds_ret (de_and (de_isi (is_int) (dv 0) (pe_bltn (by rfl) h_int (by rfl) (by rfl)) (.ty _) h_isinstance) (de_and (de_not (de_isi (is_bool) (dv 0) (pe_bltn (by rfl) h_bool (by rfl) (by rfl)) (.ty _) h_isinstance)) (de_one (de_chain (op_led) (op_led) (dv 1) (dv 0) (dv 2)))))))
theorem sc_is_step : FnScope ["classes", "code", "at", "step", "spans", "parts"] ["classes", "code", "at"] (defScope s_is_step) := ⟨rfl, rfl, rfl, by decide +kernel, rfl, by decide +kernel, by decide +kernel⟩
theorem ok_is_step {P : Program} {w : World} {K : PySem.W.Frag} {h : Heap} {mg : Str → Option Value} {base : Heap} (kx : K.In h) (G : h.Ns mainGlobals mg) (c : SaysX fa fn ts bs w K) : Fok P w K mg base "is_step" 3 ["classes", "code", "at"] f_is_step := by
  have o_is_in := ok_is_in (P := P) (w := w) (base := base) kx G c
  have o_is_word := ok_is_word (P := P) (w := w) (base := base) kx G c
  have o_names_of := ok_names_of (P := P) (w := w) (base := base) kx G c
  have o_has_seen := ok_has_seen (P := P) (w := w) (base := base) kx G c
  have h_isinstance := He.free_ok kx G (c.d.fact 10 (f := .free "isinstance") rfl)
  have h_tuple := He.free_ok kx G (c.d.fact 6 (f := .free "tuple") rfl)
  have h_str := He.free_ok kx G (c.d.fact 12 (f := .free "str") rfl)
  have h_len := He.free_ok kx G (c.d.fact 1 (f := .free "len") rfl)
  have g_LOCALS := He.int_ok kx G (c.d.fact 26 (f := .int "LOCALS" 4) rfl)
  have g_ENDS := He.glo_ok kx G (c.d.fact 27 (f := .glo "ENDS") rfl)
  have gt_ENDS := c.b 1 rfl
  have g_BARE := He.glo_ok kx G (c.d.fact 28 (f := .glo "BARE") rfl)
  have gt_BARE := c.b 2 rfl
  obtain ⟨fd, F⟩ := c.d.def_ 12 (d := d_is_step) rfl
  have b : Binds K fd ["classes", "code", "at"] [] := F.bindsN fun _ _ _ _ _ _ us hl => match us, hl with | [_, _, _], _ => rfl
  have nd := sc_is_step.nd
  refine ⟨fd, fn_dl (k := 2) (O' := []) F sc_is_step (by decide) fun cdv A outer s H E hr => ?_, b, F.kp, He.glo_ok kx G (c.d.fact 29 (f := .glo "is_step") rfl)⟩
  have hu64 := hu_64 hr
  have hu := hu_65 hr
  have tk := takes_of (X := cxOf (L2.CX P w) P w K mg base ["classes", "code", "at", "step", "spans", "parts"] "is_step" (defScope s_is_step) (He.ga K "is_step") cdv A outer s H E) rfl rfl rfl rfl
  have ps := passes_of (X := cxOf (L2.CX P w) P w K mg base ["classes", "code", "at", "step", "spans", "parts"] "is_step" (defScope s_is_step) (He.ga K "is_step") cdv A outer s H E) rfl
  exact (dss_cons (ds_set 3 (de_sub hu64 (dv 1) (dv 2)) nd)
  (dss_cons (ds_if (O' := []) (dt_bool (dw_or (dt_not (dt_val (de_isi (is_tuple) (dv 3) (pe_bltn (by rfl) h_tuple (by rfl) (by rfl)) (.ty _) h_isinstance))) (dw_or (dt_cmp (op_eqe hu64) (dv 3) (de_tup da_nil)) (dw_or1 (dt_not (dt_val (de_isi (is_str) (de_sub hu64 (dv 3) de_int) (pe_bltn (by rfl) h_str (by rfl) (by rfl)) (.ty _) h_isinstance))))))) (dss_one (ds_ret de_bl)) dss_nil)
  (dss_cons (ds_if (O' := []) (dt_bool (dw_and (dt_cmp (op_eqd hu64) (dv 2) (de_bin op_subd (de_callB cr_len (by rfl) h_len (dab_cons (dv 1) dab_nil)) de_int)) (dw_and1 (dt_cmp (op_notInd hu) (de_sub hu64 (dv 3) de_int) (de_gtup (ts := [.str ("give" : Str), .str ("go" : Str), .str ("throw" : Str)]) g_ENDS gt_ENDS))))) (dss_one (ds_ret de_bl)) dss_nil)
  (dss_cons (ds_if (O' := []) (dt_cmp (op_eqd hu64) (de_callB cr_len (by rfl) h_len (dab_cons (dv 3) dab_nil)) de_int) (dss_one (ds_ret (de_cmp (op_ind hu) (de_sub hu64 (dv 3) de_int) (de_gtup (ts := [.str ("none" : Str), .str ("add" : Str), .str ("less" : Str), .str ("same" : Str), .str ("give" : Str), .str ("throw" : Str), .str ("enter" : Str), .str ("leave" : Str), .str ("copy" : Str), .str ("drop" : Str), .str ("print" : Str)]) g_BARE gt_BARE)))) dss_nil)
  (dss_cons (ds_if (O' := []) (dt_cmp (op_eqd hu64) (de_callB cr_len (by rfl) h_len (dab_cons (dv 3) dab_nil)) de_int) (dss_cons (ds_set 4 (DE.toE (de_disp (dps_cons de_str de_int (dps_cons de_str (de_bin op_subd (de_gint g_LOCALS) de_int) (dps_cons de_str (de_bin op_subd (de_gint g_LOCALS) de_int) (dps_cons de_str (de_bin op_subd (de_callB cr_len (by rfl) h_len (dab_cons (dv 1) dab_nil)) de_int) (dps_cons de_str (de_bin op_subd (de_callB cr_len (by rfl) h_len (dab_cons (dv 1) dab_nil)) de_int) dps_nil))))))) nd)
  (dss_cons (ds_if (O' := []) (dt_cmp (op_ind hu) (de_sub hu64 (dv 3) de_int) (dv 4)) (dss_one (ds_ret (de_fn o_is_in (hr.mono (by decide)) tk (da_cons (de_sub hu64 (dv 3) de_int) (da_cons de_int (da_cons (de_sub hu64 (dv 4) (de_sub hu64 (dv 3) de_int)) da_nil))) (aCons_len (aCons_len (aCons_len aNil_len)))))) dss_nil)
  (dss_one (ds_ret (de_and (de_cmp (op_ind hu) (de_sub hu64 (dv 3) de_int) (de_tup (da_cons de_str (da_cons de_str (da_cons de_str da_nil))))) (de_and (de_fn o_is_word (hr.mono (by decide)) tk (da_cons (de_sub hu64 (dv 3) de_int) da_nil) (aCons_len aNil_len)) (de_one (de_cmp (op_ind hu) (de_sub hu64 (dv 3) de_int) (de_fn o_names_of (hr.mono (by decide)) tk (da_cons (dv 0) da_nil) (aCons_len aNil_len)))))))))) dss_nil)
  (dss_cons (ds_if (O' := []) (dt_bool (dw_or (dt_cmp (op_ned hu64) (de_callB cr_len (by rfl) h_len (dab_cons (dv 3) dab_nil)) de_int) (dw_or (dt_not (dt_val (de_fn o_is_word (hr.mono (by decide)) tk (da_cons (de_sub hu64 (dv 3) de_int) da_nil) (aCons_len aNil_len)))) (dw_or1 (dt_not (dt_val (de_fn o_is_word (hr.mono (by decide)) tk (da_cons (de_sub hu64 (dv 3) de_int) da_nil) (aCons_len aNil_len)))))))) (dss_one (ds_ret de_bl)) dss_nil)
  (dss_cons (ds_set 5 (DE.toE (de_disp (dps_cons de_str de_int (dps_cons de_str de_int (dps_cons de_str de_int dps_nil))))) nd)
  (dss_one (ds_ret (de_and (de_cmp (op_ind hu) (de_sub hu64 (dv 3) de_int) (dv 5)) (de_one (de_fn o_has_seen (hr.mono (by decide)) tk (da_cons (dv 0) (da_cons (de_sub hu64 (dv 3) de_int) (da_cons (de_sub hu64 (dv 3) de_int) (da_cons (de_sub hu64 (dv 5) (de_sub hu64 (dv 3) de_int)) da_nil)))) (aCons_len (aCons_len (aCons_len (aCons_len aNil_len))))))))))))))))
theorem sc_is_handler : FnScope ["classes", "code", "value"] ["classes", "code", "value"] (defScope s_is_handler) := ⟨rfl, rfl, rfl, by decide +kernel, rfl, by decide +kernel, by decide +kernel⟩
theorem ok_is_handler {P : Program} {w : World} {K : PySem.W.Frag} {h : Heap} {mg : Str → Option Value} {base : Heap} (kx : K.In h) (G : h.Ns mainGlobals mg) (c : SaysX fa fn ts bs w K) : Fok P w K mg base "is_handler" 2 ["classes", "code", "value"] f_is_handler := by
  have o_is_in := ok_is_in (P := P) (w := w) (base := base) kx G c
  have o_is_word := ok_is_word (P := P) (w := w) (base := base) kx G c
  have o_names_of := ok_names_of (P := P) (w := w) (base := base) kx G c
  have h_isinstance := He.free_ok kx G (c.d.fact 10 (f := .free "isinstance") rfl)
  have h_tuple := He.free_ok kx G (c.d.fact 6 (f := .free "tuple") rfl)
  have h_len := He.free_ok kx G (c.d.fact 1 (f := .free "len") rfl)
  obtain ⟨fd, F⟩ := c.d.def_ 13 (d := d_is_handler) rfl
  have b : Binds K fd ["classes", "code", "value"] [] := F.bindsN fun _ _ _ _ _ _ us hl => match us, hl with | [_, _, _], _ => rfl
  have nd := sc_is_handler.nd
  refine ⟨fd, fn_dl (k := 1) (O' := []) F sc_is_handler (by decide) fun cdv A outer s H E hr => ?_, b, F.kp, He.glo_ok kx G (c.d.fact 30 (f := .glo "is_handler") rfl)⟩
  have hu64 := hu_64 hr
  have hu := hu_65 hr
  have tk := takes_of (X := cxOf (L2.CX P w) P w K mg base ["classes", "code", "value"] "is_handler" (defScope s_is_handler) (He.ga K "is_handler") cdv A outer s H E) rfl rfl rfl rfl
  have ps := passes_of (X := cxOf (L2.CX P w) P w K mg base ["classes", "code", "value"] "is_handler" (defScope s_is_handler) (He.ga K "is_handler") cdv A outer s H E) rfl
  exact (dss_cons (ds_if (O' := []) (dt_bool (dw_or (dt_not (dt_val (de_isi (is_tuple) (dv 2) (pe_bltn (by rfl) h_tuple (by rfl) (by rfl)) (.ty _) h_isinstance))) (dw_or (dt_cmp (op_ned hu64) (de_callB cr_len (by rfl) h_len (dab_cons (dv 2) dab_nil)) de_int) (dw_or1 (dt_not (dt_val (de_fn o_is_in (hr.mono (by decide)) tk (da_cons (de_sub hu64 (dv 2) de_int) (da_cons de_int (da_cons (de_bin op_subd (de_callB cr_len (by rfl) h_len (dab_cons (dv 1) dab_nil)) de_int) da_nil))) (aCons_len (aCons_len (aCons_len aNil_len)))))))))) (dss_one (ds_ret de_bl)) dss_nil)
  (dss_cons (ds_if (O' := []) (dt_bool (dw_or (dt_not (dt_val (de_fn o_is_in (hr.mono (by decide)) tk (da_cons (de_sub hu64 (dv 2) de_int) (da_cons (de_bin op_addd (de_sub hu64 (dv 2) de_int) de_int) (da_cons (de_callB cr_len (by rfl) h_len (dab_cons (dv 1) dab_nil)) da_nil))) (aCons_len (aCons_len (aCons_len aNil_len)))))) (dw_or (dt_not (dt_val (de_fn o_is_word (hr.mono (by decide)) tk (da_cons (de_sub hu64 (dv 2) de_int) da_nil) (aCons_len aNil_len)))) (dw_or1 (dt_cmp (op_notInd hu) (de_sub hu64 (dv 2) de_int) (de_fn o_names_of (hr.mono (by decide)) tk (da_cons (dv 0) da_nil) (aCons_len aNil_len))))))) (dss_one (ds_ret de_bl)) dss_nil)
  (dss_one (ds_ret (de_fn o_is_in (hr.mono (by decide)) tk (da_cons (de_sub hu64 (dv 2) de_int) (da_cons de_int (da_cons (de_bin op_subd (de_callB cr_len (by rfl) h_len (dab_cons (dv 1) dab_nil)) de_int) da_nil))) (aCons_len (aCons_len (aCons_len aNil_len))))))))
theorem sc_check_code : FnScope ["classes", "index", "place", "method", "code", "step", "row", "handler"] ["classes", "index", "place", "method"] (defScope s_check_code) := ⟨rfl, rfl, rfl, by decide +kernel, rfl, by decide +kernel, by decide +kernel⟩
theorem ok_check_code {P : Program} {w : World} {K : PySem.W.Frag} {h : Heap} {mg : Str → Option Value} {base : Heap} (kx : K.In h) (G : h.Ns mainGlobals mg) (c : SaysX fa fn ts bs w K) : Fok P w K mg base "check_code" 4 ["classes", "index", "place", "method"] f_check_code := by
  have o_is_list := ok_is_list (P := P) (w := w) (base := base) kx G c
  have o_is_step := ok_is_step (P := P) (w := w) (base := base) kx G c
  have o_is_handler := ok_is_handler (P := P) (w := w) (base := base) kx G c
  have h_range := He.free_ok kx G (c.d.fact 4 (f := .free "range") rfl)
  have h_len := He.free_ok kx G (c.d.fact 1 (f := .free "len") rfl)
  have h_enumerate := He.free_ok kx G (c.d.fact 31 (f := .free "enumerate") rfl)
  have g_MOST_STEPS := He.int_ok kx G (c.d.fact 32 (f := .int "MOST_STEPS" 20) rfl)
  have g_MOST_PARTS := He.int_ok kx G (c.d.fact 20 (f := .int "MOST_PARTS" 4) rfl)
  have x_BadCode := xok_BadCode (P := P) (w := w) (base := base) kx G c
  have x_BadHandlers := xok_BadHandlers (P := P) (w := w) (base := base) kx G c
  obtain ⟨fd, F⟩ := c.d.def_ 14 (d := d_check_code) rfl
  have b : Binds K fd ["classes", "index", "place", "method"] [] := F.bindsN fun _ _ _ _ _ _ us hl => match us, hl with | [_, _, _, _], _ => rfl
  have nd := sc_check_code.nd
  refine ⟨fd, fn_dl (k := 3) (O' := []) F sc_check_code (by decide) fun cdv A outer s H E hr => ?_, b, F.kp, He.glo_ok kx G (c.d.fact 33 (f := .glo "check_code") rfl)⟩
  have hu64 := hu_64 hr
  have hu := hu_65 hr
  have tk := takes_of (X := cxOf (L2.CX P w) P w K mg base ["classes", "index", "place", "method", "code", "step", "row", "handler"] "check_code" (defScope s_check_code) (He.ga K "check_code") cdv A outer s H E) rfl rfl rfl rfl
  have ps := passes_of (X := cxOf (L2.CX P w) P w K mg base ["classes", "index", "place", "method", "code", "step", "row", "handler"] "check_code" (defScope s_check_code) (He.ga K "check_code") cdv A outer s H E) rfl
  exact (dss_cons (ds_set 4 (de_sub hu64 (dv 3) de_int) nd)
  (dss_cons (ds_if (O' := []) (dt_bool (dw_or (dt_not (dt_val (de_fn o_is_list (hr.mono (by decide)) tk (da_cons (dv 4) (da_cons (de_gint g_MOST_STEPS) da_nil)) (aCons_len (aCons_len aNil_len))))) (dw_or1 (dt_cmp (op_eqe hu64) (dv 4) (de_tup da_nil))))) (dss_one (ds_raise x_BadCode (hr.mono (by decide)) tk (da_cons (dv 1) (da_cons (dv 2) (da_cons de_non da_nil))) (aCons_len (aCons_len (aCons_len aNil_len))))) dss_nil)
  (dss_cons (ds_for ps (di_range1 (da_cons (de_callB cr_len (by rfl) h_len (dab_cons (dv 4) dab_nil)) da_nil) h_range) (dg_name 5 nd) (dss_one (ds_if (O' := []) (dt_not (dt_val (de_fn o_is_step (hr.mono (by decide)) tk (da_cons (dv 0) (da_cons (dv 4) (da_cons (dv 5) da_nil))) (aCons_len (aCons_len (aCons_len aNil_len)))))) (dss_one (ds_raise x_BadCode (hr.mono (by decide)) tk (da_cons (dv 1) (da_cons (dv 2) (da_cons (dv 5) da_nil))) (aCons_len (aCons_len (aCons_len aNil_len))))) dss_nil)))
  (dss_cons (ds_if (O' := []) (dt_not (dt_val (de_fn o_is_list (hr.mono (by decide)) tk (da_cons (de_sub hu64 (dv 3) de_int) (da_cons (de_gint g_MOST_PARTS) da_nil)) (aCons_len (aCons_len aNil_len))))) (dss_one (ds_raise x_BadHandlers (hr.mono (by decide)) tk (da_cons (dv 1) (da_cons (dv 2) (da_cons de_non da_nil))) (aCons_len (aCons_len (aCons_len aNil_len))))) dss_nil)
  (dss_one (ds_for ps (di_en (da_cons (de_sub hu64 (dv 3) de_int) da_nil) h_enumerate) (dg_tup (dgs_cons (dg_name 6 nd) (dgs_cons (dg_name 7 nd) dgs_nil))) (dss_one (ds_if (O' := []) (dt_not (dt_val (de_fn o_is_handler (hr.mono (by decide)) tk (da_cons (dv 0) (da_cons (dv 4) (da_cons (dv 7) da_nil))) (aCons_len (aCons_len (aCons_len aNil_len)))))) (dss_one (ds_raise x_BadHandlers (hr.mono (by decide)) tk (da_cons (dv 1) (da_cons (dv 2) (da_cons (dv 6) da_nil))) (aCons_len (aCons_len (aCons_len aNil_len))))) dss_nil))))))))
theorem sc_is_kind_in : FnScope ["names", "value"] ["names", "value"] (defScope s_is_kind_in) := ⟨rfl, rfl, rfl, by decide +kernel, rfl, by decide +kernel, by decide +kernel⟩
theorem ok_is_kind_in {P : Program} {w : World} {K : PySem.W.Frag} {h : Heap} {mg : Str → Option Value} {base : Heap} (kx : K.In h) (G : h.Ns mainGlobals mg) (c : SaysX fa fn ts bs w K) : Fok P w K mg base "is_kind_in" 2 ["names", "value"] f_is_kind_in := by
  have o_is_word := ok_is_word (P := P) (w := w) (base := base) kx G c
  have g_NUM := He.str_ok kx G (c.d.fact 19 (f := .str "NUM" ("num" : Str)) rfl)
  obtain ⟨fd, F⟩ := c.d.def_ 15 (d := d_is_kind_in) rfl
  have b : Binds K fd ["names", "value"] [] := F.bindsN fun _ _ _ _ _ _ us hl => match us, hl with | [_, _], _ => rfl
  have nd := sc_is_kind_in.nd
  refine ⟨fd, fn_dl (k := 1) (O' := []) F sc_is_kind_in (by decide) fun cdv A outer s H E hr => ?_, b, F.kp, He.glo_ok kx G (c.d.fact 34 (f := .glo "is_kind_in") rfl)⟩
  have hu64 := hu_64 hr
  have hu := hu_65 hr
  have tk := takes_of (X := cxOf (L2.CX P w) P w K mg base ["names", "value"] "is_kind_in" (defScope s_is_kind_in) (He.ga K "is_kind_in") cdv A outer s H E) rfl rfl rfl rfl
  have ps := passes_of (X := cxOf (L2.CX P w) P w K mg base ["names", "value"] "is_kind_in" (defScope s_is_kind_in) (He.ga K "is_kind_in") cdv A outer s H E) rfl
  exact (dss_one (ds_ret (de_and (de_fn o_is_word (hr.mono (by decide)) tk (da_cons (dv 1) da_nil) (aCons_len aNil_len)) (de_one (de_or (de_cmp (op_eqd hu64) (dv 1) (de_gstr g_NUM)) (de_one (de_cmp (op_ind hu) (dv 1) (dv 0))))))))
theorem sc_is_method : FnScope ["classes", "names", "told", "at", "value", "upper", "method", "kind"] ["classes", "names", "told", "at"] (defScope s_is_method) := ⟨rfl, rfl, rfl, by decide +kernel, rfl, by decide +kernel, by decide +kernel⟩
theorem ok_is_method {P : Program} {w : World} {K : PySem.W.Frag} {h : Heap} {mg : Str → Option Value} {base : Heap} (kx : K.In h) (G : h.Ns mainGlobals mg) (c : SaysX fa fn ts bs w K) : Fok P w K mg base "is_method" 3 ["classes", "names", "told", "at"] f_is_method := by
  have o_is_word := ok_is_word (P := P) (w := w) (base := base) kx G c
  have o_is_list := ok_is_list (P := P) (w := w) (base := base) kx G c
  have o_is_kind_in := ok_is_kind_in (P := P) (w := w) (base := base) kx G c
  have o_row_of := ok_row_of (P := P) (w := w) (base := base) kx G c
  have h_isinstance := He.free_ok kx G (c.d.fact 10 (f := .free "isinstance") rfl)
  have h_tuple := He.free_ok kx G (c.d.fact 6 (f := .free "tuple") rfl)
  have h_len := He.free_ok kx G (c.d.fact 1 (f := .free "len") rfl)
  have h_all := He.free_ok kx G (c.d.fact 13 (f := .free "all") rfl)
  have g_MOST_INS := He.int_ok kx G (c.d.fact 35 (f := .int "MOST_INS" 3) rfl)
  obtain ⟨fd, F⟩ := c.d.def_ 16 (d := d_is_method) rfl
  have b : Binds K fd ["classes", "names", "told", "at"] [] := F.bindsN fun _ _ _ _ _ _ us hl => match us, hl with | [_, _, _, _], _ => rfl
  have nd := sc_is_method.nd
  refine ⟨fd, fn_dl (k := 2) (O' := []) F sc_is_method (by decide) fun cdv A outer s H E hr => ?_, b, F.kp, He.glo_ok kx G (c.d.fact 36 (f := .glo "is_method") rfl)⟩
  have hu64 := hu_64 hr
  have hu := hu_65 hr
  have tk := takes_of (X := cxOf (L2.CX P w) P w K mg base ["classes", "names", "told", "at", "value", "upper", "method", "kind"] "is_method" (defScope s_is_method) (He.ga K "is_method") cdv A outer s H E) rfl rfl rfl rfl
  have ps := passes_of (X := cxOf (L2.CX P w) P w K mg base ["classes", "names", "told", "at", "value", "upper", "method", "kind"] "is_method" (defScope s_is_method) (He.ga K "is_method") cdv A outer s H E) rfl
  exact (dss_cons (ds_set 4 (de_sub hu64 (de_sub hu64 (dv 2) de_int) (dv 3)) nd)
  (dss_cons (ds_if (O' := []) (dt_bool (dw_or (dt_not (dt_val (de_isi (is_tuple) (dv 4) (pe_bltn (by rfl) h_tuple (by rfl) (by rfl)) (.ty _) h_isinstance))) (dw_or (dt_cmp (op_ned hu64) (de_callB cr_len (by rfl) h_len (dab_cons (dv 4) dab_nil)) de_int) (dw_or1 (dt_not (dt_val (de_fn o_is_word (hr.mono (by decide)) tk (da_cons (de_sub hu64 (dv 4) de_int) da_nil) (aCons_len aNil_len)))))))) (dss_one (ds_ret de_bl)) dss_nil)
  (dss_cons (ds_if (O' := []) (dt_bool (dw_or (dt_cmp (op_ind hu) (de_sub hu64 (dv 4) de_int) (de_lc nd (blkOk_by (own := [(("method" : Str), 6)]) (by kernel_rfl)) (di_seq (de_sl (de_sub hu64 (dv 2) de_int) do_none (do_some (dv 3)))) (gok_name 6) (fun _ _ _ _ _ => ((dg_name (O := []) 6 nd)).pg) town_name (fun _ _ _ _ _ => dcs_nil) (fun _ _ _ _ _ => (de_sub hu64 (dv 6) de_int)))) (dw_or1 (dt_not (dt_val (de_fn o_is_list (hr.mono (by decide)) tk (da_cons (de_sub hu64 (dv 4) de_int) (da_cons (de_gint g_MOST_INS) da_nil)) (aCons_len (aCons_len aNil_len)))))))) (dss_one (ds_ret de_bl)) dss_nil)
  (dss_cons (ds_if (O' := []) (dt_bool (dw_or (dt_not (dt_val (de_callB (cr_allD rfl) (by rfl) h_all (dab_cons (de_lc nd (blkOk_by (own := [(("kind" : Str), 7)]) (by kernel_rfl)) (di_seq (de_sub hu64 (dv 4) de_int)) (gok_name 7) (fun _ _ _ _ _ => ((dg_name (O := []) 7 nd)).pg) town_name (fun _ _ _ _ _ => dcs_nil) (fun _ _ _ _ _ => (de_fn o_is_kind_in (hr.mono (by decide)) L2.takes0 (da_cons (dv 1) (da_cons (dv 7) da_nil)) (aCons_len (aCons_len aNil_len))))) dab_nil)))) (dw_or1 (dt_not (dt_val (de_fn o_is_kind_in (hr.mono (by decide)) tk (da_cons (dv 1) (da_cons (de_sub hu64 (dv 4) de_int) da_nil)) (aCons_len (aCons_len aNil_len)))))))) (dss_one (ds_ret de_bl)) dss_nil)
  (dss_cons (ds_for ps (di_seq (de_fn o_row_of (hr.mono (by decide)) tk (da_cons (dv 0) (da_cons (de_sub hu64 (dv 2) de_int) da_nil)) (aCons_len (aCons_len aNil_len)))) (dg_name 5 nd) (dss_one (ds_for ps (di_seq (de_sub hu64 (dv 5) de_int)) (dg_name 6 nd) (dss_one (ds_if (O' := []) (dt_bool (dw_and (dt_cmp (op_eqd hu64) (de_sub hu64 (dv 6) de_int) (de_sub hu64 (dv 4) de_int)) (dw_and1 (dt_cmp (op_ned hu64) (de_sl (dv 6) (do_some de_int) (do_some de_int)) (de_sl (dv 4) (do_some de_int) (do_some de_int)))))) (dss_one (ds_ret de_bl)) dss_nil)))))
  (dss_one (ds_ret de_bl)))))))
theorem sc_check_classes : FnScope ["classes", "index", "told", "names", "place", "method"] ["classes"] (defScope s_check_classes) := ⟨rfl, rfl, rfl, by decide +kernel, rfl, by decide +kernel, by decide +kernel⟩
theorem ok_check_classes {P : Program} {w : World} {K : PySem.W.Frag} {h : Heap} {mg : Str → Option Value} {base : Heap} (kx : K.In h) (G : h.Ns mainGlobals mg) (c : SaysX fa fn ts bs w K) : Fok P w K mg base "check_classes" 5 ["classes"] f_check_classes := by
  have o_is_list := ok_is_list (P := P) (w := w) (base := base) kx G c
  have o_is_class := ok_is_class (P := P) (w := w) (base := base) kx G c
  have o_names_of := ok_names_of (P := P) (w := w) (base := base) kx G c
  have o_are_fields := ok_are_fields (P := P) (w := w) (base := base) kx G c
  have o_is_method := ok_is_method (P := P) (w := w) (base := base) kx G c
  have o_check_code := ok_check_code (P := P) (w := w) (base := base) kx G c
  have h_enumerate := He.free_ok kx G (c.d.fact 31 (f := .free "enumerate") rfl)
  have h_range := He.free_ok kx G (c.d.fact 4 (f := .free "range") rfl)
  have h_len := He.free_ok kx G (c.d.fact 1 (f := .free "len") rfl)
  have g_MOST_CLASSES := He.int_ok kx G (c.d.fact 37 (f := .int "MOST_CLASSES" 8) rfl)
  have g_MOST_PARTS := He.int_ok kx G (c.d.fact 20 (f := .int "MOST_PARTS" 4) rfl)
  have x_BadClasses := xok_BadClasses (P := P) (w := w) (base := base) kx G c
  have x_BadFields := xok_BadFields (P := P) (w := w) (base := base) kx G c
  have x_BadMethods := xok_BadMethods (P := P) (w := w) (base := base) kx G c
  obtain ⟨fd, F⟩ := c.d.def_ 17 (d := d_check_classes) rfl
  have b : Binds K fd ["classes"] [] := F.bindsN fun _ _ _ _ _ _ us hl => match us, hl with | [_], _ => rfl
  have nd := sc_check_classes.nd
  refine ⟨fd, fn_dl (k := 4) (O' := []) F sc_check_classes (by decide) fun cdv A outer s H E hr => ?_, b, F.kp, He.glo_ok kx G (c.d.fact 38 (f := .glo "check_classes") rfl)⟩
  have hu64 := hu_64 hr
  have hu := hu_65 hr
  have tk := takes_of (X := cxOf (L2.CX P w) P w K mg base ["classes", "index", "told", "names", "place", "method"] "check_classes" (defScope s_check_classes) (He.ga K "check_classes") cdv A outer s H E) rfl rfl rfl rfl
  have ps := passes_of (X := cxOf (L2.CX P w) P w K mg base ["classes", "index", "told", "names", "place", "method"] "check_classes" (defScope s_check_classes) (He.ga K "check_classes") cdv A outer s H E) rfl
  exact (dss_cons (ds_if (O' := []) (dt_bool (dw_or (dt_not (dt_val (de_fn o_is_list (hr.mono (by decide)) tk (da_cons (dv 0) (da_cons (de_gint g_MOST_CLASSES) da_nil)) (aCons_len (aCons_len aNil_len))))) (dw_or1 (dt_cmp (op_eqe hu64) (dv 0) (de_tup da_nil))))) (dss_one (ds_raise x_BadClasses (hr.mono (by decide)) tk (da_cons de_non da_nil) (aCons_len aNil_len))) dss_nil)
  (dss_cons (ds_for ps (di_en (da_cons (dv 0) da_nil) h_enumerate) (dg_tup (dgs_cons (dg_name 1 nd) (dgs_cons (dg_name 2 nd) dgs_nil))) (dss_one (ds_if (O' := []) (dt_not (dt_val (de_fn o_is_class (hr.mono (by decide)) tk (da_cons (de_sl (dv 0) do_none (do_some (dv 1))) (da_cons (dv 2) da_nil)) (aCons_len (aCons_len aNil_len))))) (dss_one (ds_raise x_BadClasses (hr.mono (by decide)) tk (da_cons (dv 1) da_nil) (aCons_len aNil_len))) dss_nil)))
  (dss_cons (ds_set 3 (de_fn o_names_of (hr.mono (by decide)) tk (da_cons (dv 0) da_nil) (aCons_len aNil_len)) nd)
  (dss_cons (ds_for ps (di_en (da_cons (dv 0) da_nil) h_enumerate) (dg_tup (dgs_cons (dg_name 1 nd) (dgs_cons (dg_name 2 nd) dgs_nil))) (dss_cons (ds_if (O' := []) (dt_not (dt_val (de_fn o_are_fields (hr.mono (by decide)) tk (da_cons (de_sl (dv 0) do_none (do_some (dv 1))) (da_cons (dv 3) (da_cons (dv 2) da_nil))) (aCons_len (aCons_len (aCons_len aNil_len)))))) (dss_one (ds_raise x_BadFields (hr.mono (by decide)) tk (da_cons (dv 1) da_nil) (aCons_len aNil_len))) dss_nil)
  (dss_cons (ds_if (O' := []) (dt_not (dt_val (de_fn o_is_list (hr.mono (by decide)) tk (da_cons (de_sub hu64 (dv 2) de_int) (da_cons (de_gint g_MOST_PARTS) da_nil)) (aCons_len (aCons_len aNil_len))))) (dss_one (ds_raise x_BadMethods (hr.mono (by decide)) tk (da_cons (dv 1) (da_cons de_non da_nil)) (aCons_len (aCons_len aNil_len)))) dss_nil)
  (dss_one (ds_for ps (di_range1 (da_cons (de_callB cr_len (by rfl) h_len (dab_cons (de_sub hu64 (dv 2) de_int) dab_nil)) da_nil) h_range) (dg_name 4 nd) (dss_one (ds_if (O' := []) (dt_not (dt_val (de_fn o_is_method (hr.mono (by decide)) tk (da_cons (de_sl (dv 0) do_none (do_some (dv 1))) (da_cons (dv 3) (da_cons (dv 2) (da_cons (dv 4) da_nil)))) (aCons_len (aCons_len (aCons_len (aCons_len aNil_len))))))) (dss_one (ds_raise x_BadMethods (hr.mono (by decide)) tk (da_cons (dv 1) (da_cons (dv 4) da_nil)) (aCons_len (aCons_len aNil_len)))) dss_nil)))))))
  (dss_one (ds_for ps (di_en (da_cons (dv 0) da_nil) h_enumerate) (dg_tup (dgs_cons (dg_name 1 nd) (dgs_cons (dg_name 2 nd) dgs_nil))) (dss_one (ds_for ps (di_en (da_cons (de_sub hu64 (dv 2) de_int) da_nil) h_enumerate) (dg_tup (dgs_cons (dg_name 4 nd) (dgs_cons (dg_name 5 nd) dgs_nil))) (dss_one (ds_expr (de_fn o_check_code (hr.mono (by decide)) tk (da_cons (dv 0) (da_cons (dv 1) (da_cons (dv 4) (da_cons (dv 5) da_nil)))) (aCons_len (aCons_len (aCons_len (aCons_len aNil_len)))))))))))))))
theorem sc_House___init__ : FnScope ["self", "classes"] ["self", "classes"] (defScope s_House___init__) := ⟨rfl, rfl, rfl, by decide +kernel, rfl, by decide +kernel, by decide +kernel⟩
theorem ok_House___init__ {P : Program} {w : World} {K : PySem.W.Frag} {h : Heap} {mg : Str → Option Value} {base : Heap} (kx : K.In h) (G : h.Ns mainGlobals mg) (c : SaysX fa fn ts bs w K) : Mok P w K mg base (He.ma K (He.ga K "House") "__init__") 6 ["self", "classes"] f_House___init__ := by
  have o_check_classes := ok_check_classes (P := P) (w := w) (base := base) kx G c
  have cl_House := He.cls_ok (c.d.fact 39 (f := .cls "House") rfl)
  have na_House_told : NoAttr K (He.ga K "House") "told" := He.eqO_ok (c.d.fact 40 (f := .noat "House" "told") rfl)
  have fl_told : ∀ z ∈ (["House"] : List Str), Cls K (He.ga K z) ∧ NoAttr K (He.ga K z) "told" := by
    intro z hz
    simp only [List.mem_cons, List.not_mem_nil, or_false] at hz
    rcases hz with rfl
    · exact ⟨cl_House, na_House_told⟩
  obtain ⟨fd, F⟩ := c.d.def_ 18 (d := d_House___init__) rfl
  have b : Binds K fd ["self", "classes"] [] := F.bindsN fun _ _ _ _ _ _ us hl => match us, hl with | [_, _], _ => rfl
  have nd := sc_House___init__.nd
  refine ⟨fd, fn_dl (k := 5) (O' := []) F sc_House___init__ (by decide) fun cdv A outer s H E hr => ?_, b⟩
  have hu64 := hu_64 hr
  have hu := hu_65 hr
  have tk := takes_of (X := cxOf (L2.CX P w) P w K mg base ["self", "classes"] "House.__init__" (defScope s_House___init__) (He.ma K (He.ga K "House") "__init__") cdv A outer s H E) rfl rfl rfl rfl
  have ps := passes_of (X := cxOf (L2.CX P w) P w K mg base ["self", "classes"] "House.__init__" (defScope s_House___init__) (He.ma K (He.ga K "House") "__init__") cdv A outer s H E) rfl
  exact (dss_cons (ds_expr (de_fn o_check_classes (hr.mono (by decide)) tk (da_cons (dv 1) da_nil) (aCons_len aNil_len)))
  (dss_one (ds_fld [("House" : Str)] fl_told (dv 0) (dv 1))))
theorem sc__law_uses : FnScope ["_law_classes", "_law_name", "_law_told", "_law_some", "_law_method", "_law_found", "_law_other", "_law_one", "_law_step"] ["_law_classes", "_law_name"] (defScope s__law_uses) := ⟨rfl, rfl, rfl, by decide +kernel, rfl, by decide +kernel, by decide +kernel⟩
theorem ok__law_uses {P : Program} {w : World} {K : PySem.W.Frag} {h : Heap} {mg : Str → Option Value} {base : Heap} (kx : K.In h) (G : h.Ns mainGlobals mg) (c : SaysX fa fn ts bs w K) : Fok P w K mg base "_law_uses" 1 ["_law_classes", "_law_name"] f__law_uses := by
  have h_int := He.free_ok kx G (c.d.fact 0 (f := .free "int") rfl)
  obtain ⟨fd, F⟩ := c.d.def_ 19 (d := d__law_uses) rfl
  have b : Binds K fd ["_law_classes", "_law_name"] [] := F.bindsN fun _ _ _ _ _ _ us hl => match us, hl with | [_, _], _ => rfl
  have nd := sc__law_uses.nd
  refine ⟨fd, fn_dl (k := 0) (O' := []) F sc__law_uses (by decide) fun cdv A outer s H E hr => ?_, b, F.kp, He.glo_ok kx G (c.d.fact 41 (f := .glo "_law_uses") rfl)⟩
  have hu64 := hu_64 hr
  have hu := hu_65 hr
  have tk := takes_of (X := cxOf (L2.CX P w) P w K mg base ["_law_classes", "_law_name", "_law_told", "_law_some", "_law_method", "_law_found", "_law_other", "_law_one", "_law_step"] "_law_uses" (defScope s__law_uses) (He.ga K "_law_uses") cdv A outer s H E) rfl rfl rfl rfl
  have ps := passes_of (X := cxOf (L2.CX P w) P w K mg base ["_law_classes", "_law_name", "_law_told", "_law_some", "_law_method", "_law_found", "_law_other", "_law_one", "_law_step"] "_law_uses" (defScope s__law_uses) (He.ga K "_law_uses") cdv A outer s H E) rfl
  exact (dss_cons (ds_set 2 (de_sub hu64 (de_lc nd (blkOk_by (own := [(("_law_one" : Str), 7)]) (by kernel_rfl)) (di_seq (dv 0)) (gok_name 7) (fun _ _ _ _ _ => ((dg_name (O := []) 7 nd)).pg) town_name (fun _ _ _ _ _ => (dcs_one (dt_cmp (op_eqd hu64) (de_sub hu64 (dv 7) de_int) (dv 1)))) (fun _ _ _ _ _ => (dv 7))) de_int) nd)
  (dss_cons (ds_set 3 (DE.toE (de_lst (da_cons (de_sub hu64 (dv 2) de_int) da_nil))) nd)
  (dss_cons (ds_for ps (di_seq (de_sub hu64 (dv 2) de_int)) (dg_name 4 nd) (dss_one (ds_if (O' := []) (dt_bool (dw_and (dt_cmp (op_eqd hu64) (de_sub hu64 (dv 4) de_int) de_str) (dw_and1 (dt_cmp (op_eqe hu64) (de_sub hu64 (dv 4) de_int) (de_tup da_nil))))) (dss_one (ds_set 3 (de_bin op_addd (dv 3) (de_lc nd (blkOk_by (own := [(("_law_step" : Str), 8)]) (by kernel_rfl)) (di_seq (de_sub hu64 (dv 4) de_int)) (gok_name 8) (fun _ _ _ _ _ => ((dg_name (O := []) 8 nd)).pg) town_name (fun _ _ _ _ _ => (dcs_one (dt_cmp (op_ind hu) (de_sub hu64 (dv 8) de_int) (de_lst (da_cons de_str (da_cons de_str (da_cons de_str (da_cons de_str (da_cons de_str (da_cons de_str da_nil)))))))))) (fun _ _ _ _ _ => (de_sub hu64 (dv 8) de_int)))) nd)) dss_nil)))
  (dss_cons (ds_set 5 (DE.toE (de_lst da_nil)) nd)
  (dss_cons (ds_for ps (di_seq (dv 3)) (dg_name 6 nd) (dss_one (ds_set 5 (de_bin op_addd (dv 5) (de_rep (de_lst (da_cons (dv 6) da_nil)) (de_callTy cr_int (by rfl) h_int (dab_cons (de_cmp (op_notInd hu) (dv 6) (de_bin op_addd (dv 5) (de_lst (da_cons de_str (da_cons (dv 1) da_nil))))) dab_nil)))) nd)))
  (dss_one (ds_ret (dv 5))))))))
theorem sc__law_led : FnScope ["_law_classes", "_law_name", "_law_found", "_law_many", "_law_other", "_law_one"] ["_law_classes", "_law_name"] (defScope s__law_led) := ⟨rfl, rfl, rfl, by decide +kernel, rfl, by decide +kernel, by decide +kernel⟩
theorem ok__law_led {P : Program} {w : World} {K : PySem.W.Frag} {h : Heap} {mg : Str → Option Value} {base : Heap} (kx : K.In h) (G : h.Ns mainGlobals mg) (c : SaysX fa fn ts bs w K) : Fok P w K mg base "_law_led" 2 ["_law_classes", "_law_name"] f__law_led := by
  have o__law_uses := ok__law_uses (P := P) (w := w) (base := base) kx G c
  have h_len := He.free_ok kx G (c.d.fact 1 (f := .free "len") rfl)
  have h_list := He.free_ok kx G (c.d.fact 42 (f := .free "list") rfl)
  obtain ⟨fd, F⟩ := c.d.def_ 20 (d := d__law_led) rfl
  have b : Binds K fd ["_law_classes", "_law_name"] [] := F.bindsN fun _ _ _ _ _ _ us hl => match us, hl with | [_, _], _ => rfl
  have nd := sc__law_led.nd
  refine ⟨fd, fn_dl (k := 1) (O' := []) F sc__law_led (by decide) fun cdv A outer s H E hr => ?_, b, F.kp, He.glo_ok kx G (c.d.fact 43 (f := .glo "_law_led") rfl)⟩
  have hu64 := hu_64 hr
  have hu := hu_65 hr
  have tk := takes_of (X := cxOf (L2.CX P w) P w K mg base ["_law_classes", "_law_name", "_law_found", "_law_many", "_law_other", "_law_one"] "_law_led" (defScope s__law_led) (He.ga K "_law_led") cdv A outer s H E) rfl rfl rfl rfl
  have ps := passes_of (X := cxOf (L2.CX P w) P w K mg base ["_law_classes", "_law_name", "_law_found", "_law_many", "_law_other", "_law_one"] "_law_led" (defScope s__law_led) (He.ga K "_law_led") cdv A outer s H E) rfl
  exact (dss_cons (ds_parT [2, 3] (dak_e (de_fn o__law_uses (hr.mono (by decide)) tk (da_cons (dv 0) (da_cons (dv 1) da_nil)) (aCons_len (aCons_len aNil_len))) (dak_e (de_un un_negd de_int) dak_nil)) (pgs_cons (pg_name nd (by rfl) (by first | exact Or.inl rfl | exact Or.inr rfl) (by first | exact .inl rfl | exact .inr rfl)) (pgs_cons (pg_name nd (by rfl) (by first | exact Or.inl rfl | exact Or.inr rfl) (by first | exact .inl rfl | exact .inr rfl)) pgs_nil)))
  (dss_cons (ds_while ps (dt_cmp (op_lti) (dv 3) (de_callB cr_len (by rfl) h_len (dab_cons (dv 2) dab_nil))) (dss_cons (ds_set 3 (de_callB cr_len (by rfl) h_len (dab_cons (dv 2) dab_nil)) nd)
  (dss_one (ds_for ps (di_seq (DE.toE (de_callTy (cr_lst rfl) (by rfl) h_list (dab_cons (dv 2) dab_nil)))) (dg_name 4 nd) (dss_one (ds_set 2 (de_bin op_addd (dv 2) (de_lc nd (blkOk_by (own := [(("_law_one" : Str), 5)]) (by kernel_rfl)) (di_seq (de_fn o__law_uses (hr.mono (by decide)) tk (da_cons (dv 0) (da_cons (dv 4) da_nil)) (aCons_len (aCons_len aNil_len)))) (gok_name 5) (fun _ _ _ _ _ => ((dg_name (O := []) 5 nd)).pg) town_name (fun _ _ _ _ _ => (dcs_one (dt_cmp (op_notInd hu) (dv 5) (dv 2)))) (fun _ _ _ _ _ => (dv 5)))) nd))))))
  (dss_one (ds_ret (dv 2)))))
theorem sc__law_alike : FnScope ["_law_found", "_law_due", "_law_k"] ["_law_found", "_law_due"] (defScope s__law_alike) := ⟨rfl, rfl, rfl, by decide +kernel, rfl, by decide +kernel, by decide +kernel⟩
theorem ok__law_alike {P : Program} {w : World} {K : PySem.W.Frag} {h : Heap} {mg : Str → Option Value} {base : Heap} (kx : K.In h) (G : h.Ns mainGlobals mg) (c : SaysX fa fn ts bs w K) : ∀ n, Fok P w K mg base "_law_alike" (1 + n) ["_law_found", "_law_due"] (f__law_alike n) := by
  have h_isinstance := He.free_ok kx G (c.d.fact 10 (f := .free "isinstance") rfl)
  have h_tuple := He.free_ok kx G (c.d.fact 6 (f := .free "tuple") rfl)
  have h_list := He.free_ok kx G (c.d.fact 42 (f := .free "list") rfl)
  have h_len := He.free_ok kx G (c.d.fact 1 (f := .free "len") rfl)
  have h_range := He.free_ok kx G (c.d.fact 4 (f := .free "range") rfl)
  have h_str := He.free_ok kx G (c.d.fact 12 (f := .free "str") rfl)
  have h_int := He.free_ok kx G (c.d.fact 0 (f := .free "int") rfl)
  have h_bool := He.free_ok kx G (c.d.fact 24 (f := .free "bool") rfl)
  obtain ⟨fd, F⟩ := c.d.def_ 21 (d := d__law_alike) rfl
  have b : Binds K fd ["_law_found", "_law_due"] [] := F.bindsN fun _ _ _ _ _ _ us hl => match us, hl with | [_, _], _ => rfl
  have nd := sc__law_alike.nd
  intro n
  induction n with
  | zero => exact ⟨fd, fn_dl (k := 0) (O' := []) F sc__law_alike (by decide) fun cdv A outer s H E hr => dss_never, b, F.kp, He.glo_ok kx G (c.d.fact 44 (f := .glo "_law_alike") rfl)⟩
  | succ n ih =>
    have oself := ih
    refine ⟨fd, fn_dl (k := 1 + n) (O' := []) F sc__law_alike (by decide) fun cdv A outer s H E hr => ?_, b, F.kp, He.glo_ok kx G (c.d.fact 44 (f := .glo "_law_alike") rfl)⟩
    have hu64 := hu_64 hr
    have hu := hu_65 hr
    have tk := takes_of (X := cxOf (L2.CX P w) P w K mg base ["_law_found", "_law_due", "_law_k"] "_law_alike" (defScope s__law_alike) (He.ga K "_law_alike") cdv A outer s H E) rfl rfl rfl rfl
    have ps := passes_of (X := cxOf (L2.CX P w) P w K mg base ["_law_found", "_law_due", "_law_k"] "_law_alike" (defScope s__law_alike) (He.ga K "_law_alike") cdv A outer s H E) rfl
    exact (dss_cons (ds_if (O' := []) (dt_val (de_isiT (is_tuple_list) (dv 1) (pa_cons (pe_bltn (by rfl) h_tuple (by rfl) (by rfl)) (pa_cons (pe_bltn (by rfl) h_list (by rfl) (by rfl)) pa_nil)) (.cons (.ty _) (.cons (.ty _) .nil)) (hm := h_isinstance))) (dss_cons (ds_if (O' := []) (dt_bool (dw_or (dt_not (dt_val (de_isiT (is_tuple_list) (dv 0) (pa_cons (pe_bltn (by rfl) h_tuple (by rfl) (by rfl)) (pa_cons (pe_bltn (by rfl) h_list (by rfl) (by rfl)) pa_nil)) (.cons (.ty _) (.cons (.ty _) .nil)) (hm := h_isinstance)))) (dw_or1 (dt_cmp (op_ned hu64) (de_isi (is_list) (dv 0) (pe_bltn (by rfl) h_list (by rfl) (by rfl)) (.ty _) h_isinstance) (de_isi (is_list) (dv 1) (pe_bltn (by rfl) h_list (by rfl) (by rfl)) (.ty _) h_isinstance))))) (dss_one (ds_ret de_bl)) dss_nil)
  (dss_cons (ds_if (O' := []) (dt_cmp (op_ned hu64) (de_callB cr_len (by rfl) h_len (dab_cons (dv 0) dab_nil)) (de_callB cr_len (by rfl) h_len (dab_cons (dv 1) dab_nil))) (dss_one (ds_ret de_bl)) dss_nil)
  (dss_one (ds_ret (de_cmp (op_eqd hu64) (de_lc nd (blkOk_by (own := [(("_law_k" : Str), 2)]) (by kernel_rfl)) (di_range1 (da_cons (de_callB cr_len (by rfl) h_len (dab_cons (dv 1) dab_nil)) da_nil) h_range) (gok_name 2) (fun _ _ _ _ _ => ((dg_name (O := []) 2 nd)).pg) town_name (fun _ _ _ _ _ => (dcs_one (dt_not (dt_val (de_fn oself hr L2.takes0 (da_cons (de_sub hu64 (dv 0) (dv 2)) (da_cons (de_sub hu64 (dv 1) (dv 2)) da_nil)) (aCons_len (aCons_len aNil_len))))))) (fun _ _ _ _ _ => (dv 2))) (de_lst da_nil)))))) dss_nil)
  (dss_cons (ds_if (O' := []) (dt_bool (dw_or (dt_isN (dv 1)) (dw_or1 (dt_val (de_isi (is_str) (dv 1) (pe_bltn (by rfl) h_str (by rfl) (by rfl)) (.ty _) h_isinstance))))) (dss_one (ds_ret (de_and (de_cmp (op_eqd hu64) (dv 0) (dv 1)) (de_one (de_cmp (op_eqd hu64) (de_isi (is_str) (dv 0) (pe_bltn (by rfl) h_str (by rfl) (by rfl)) (.ty _) h_isinstance) (de_isi (is_str) (dv 1) (pe_bltn (by rfl) h_str (by rfl) (by rfl)) (.ty _) h_isinstance)))))) dss_nil)
  (dss_one (ds_ret (de_and (de_isi (is_int) (dv 0) (pe_bltn (by rfl) h_int (by rfl) (by rfl)) (.ty _) h_isinstance) (de_and (de_cmp (op_eqd hu64) (de_isi (is_bool) (dv 0) (pe_bltn (by rfl) h_bool (by rfl) (by rfl)) (.ty _) h_isinstance) (de_isi (is_bool) (dv 1) (pe_bltn (by rfl) h_bool (by rfl) (by rfl)) (.ty _) h_isinstance)) (de_one (de_cmp (op_eqd hu64) (dv 0) (dv 1)))))))))
theorem sc_need_house : FnScope ["house"] ["house"] (defScope s_need_house) := ⟨rfl, rfl, rfl, by decide +kernel, rfl, by decide +kernel, by decide +kernel⟩
theorem ok_need_house {P : Program} {w : World} {K : PySem.W.Frag} {h : Heap} {mg : Str → Option Value} {base : Heap} (kx : K.In h) (G : h.Ns mainGlobals mg) (c : SaysX fa fn ts bs w K) : Fok P w K mg base "need_house" 1 ["house"] f_need_house := by
  have h_isinstance := He.free_ok kx G (c.d.fact 10 (f := .free "isinstance") rfl)
  have gc_House := He.glo_ok kx G (c.d.fact 45 (f := .glo "House") rfl)
  have is_House : IsK K [.ref (He.ga K "House")] tb_House to_House := isK_own (c.b 3 rfl) (by
    intro d b e
    unfold to_House at e
    by_cases hh : d = "House"
    · subst hh; cases e; exact ⟨clsIB_ok (c.b 4 rfl), of_decide_eq_true (c.b 5 rfl)⟩
    rw [if_neg hh] at e
    clear hh
    cases e)
  obtain ⟨fd, F⟩ := c.d.def_ 22 (d := d_need_house) rfl
  have b : Binds K fd ["house"] [] := F.bindsN fun _ _ _ _ _ _ us hl => match us, hl with | [_], _ => rfl
  have nd := sc_need_house.nd
  refine ⟨fd, fn_dl (k := 0) (O' := []) F sc_need_house (by decide) fun cdv A outer s H E hr => ?_, b, F.kp, He.glo_ok kx G (c.d.fact 46 (f := .glo "need_house") rfl)⟩
  have hu64 := hu_64 hr
  have hu := hu_65 hr
  have tk := takes_of (X := cxOf (L2.CX P w) P w K mg base ["house"] "need_house" (defScope s_need_house) (He.ga K "need_house") cdv A outer s H E) rfl rfl rfl rfl
  have ps := passes_of (X := cxOf (L2.CX P w) P w K mg base ["house"] "need_house" (defScope s_need_house) (He.ga K "need_house") cdv A outer s H E) rfl
  exact (dss_one (ds_if (O' := []) (dt_not (dt_val (de_isi (is_House) (dv 0) (pe_glob (by rfl) gc_House (by rfl)) (.own _) h_isinstance))) (dss_one ds_never) dss_nil))
theorem sc_methods_at : FnScope ["house", "name", "found", "told"] ["house", "name"] (defScope s_methods_at) := ⟨rfl, rfl, rfl, by decide +kernel, rfl, by decide +kernel, by decide +kernel⟩
theorem ok_methods_at {P : Program} {w : World} {K : PySem.W.Frag} {h : Heap} {mg : Str → Option Value} {base : Heap} (kx : K.In h) (G : h.Ns mainGlobals mg) (c : SaysX fa fn ts bs w K) : Fok P w K mg base "methods_at" 1 ["house", "name"] f_methods_at := by
  have cl_House := He.cls_ok (c.d.fact 39 (f := .cls "House") rfl)
  have na_House_told : NoAttr K (He.ga K "House") "told" := He.eqO_ok (c.d.fact 40 (f := .noat "House" "told") rfl)
  have fl_told : ∀ z ∈ (["House"] : List Str), Cls K (He.ga K z) ∧ NoAttr K (He.ga K z) "told" := by
    intro z hz
    simp only [List.mem_cons, List.not_mem_nil, or_false] at hz
    rcases hz with rfl
    · exact ⟨cl_House, na_House_told⟩
  obtain ⟨fd, F⟩ := c.d.def_ 23 (d := d_methods_at) rfl
  have b : Binds K fd ["house", "name"] [] := F.bindsN fun _ _ _ _ _ _ us hl => match us, hl with | [_, _], _ => rfl
  have nd := sc_methods_at.nd
  refine ⟨fd, fn_dl (k := 0) (O' := []) F sc_methods_at (by decide) fun cdv A outer s H E hr => ?_, b, F.kp, He.glo_ok kx G (c.d.fact 47 (f := .glo "methods_at") rfl)⟩
  have hu64 := hu_64 hr
  have hu := hu_65 hr
  have tk := takes_of (X := cxOf (L2.CX P w) P w K mg base ["house", "name", "found", "told"] "methods_at" (defScope s_methods_at) (He.ga K "methods_at") cdv A outer s H E) rfl rfl rfl rfl
  have ps := passes_of (X := cxOf (L2.CX P w) P w K mg base ["house", "name", "found", "told"] "methods_at" (defScope s_methods_at) (He.ga K "methods_at") cdv A outer s H E) rfl
  exact (dss_cons (ds_set 2 (de_tup da_nil) nd)
  (dss_cons (ds_for ps (di_seq (de_fld [("House" : Str)] fl_told (dv 0))) (dg_name 3 nd) (dss_one (ds_if (O' := []) (dt_cmp (op_eqd hu64) (de_sub hu64 (dv 3) de_int) (dv 1)) (dss_one (ds_set 2 (de_sub hu64 (dv 3) de_int) nd)) dss_nil)))
  (dss_one (ds_ret (dv 2)))))
theorem sc_used_by : FnScope ["house", "name", "found", "method", "uses", "other", "told", "step"] ["house", "name"] (defScope s_used_by) := ⟨rfl, rfl, rfl, by decide +kernel, rfl, by decide +kernel, by decide +kernel⟩
theorem ok_used_by {P : Program} {w : World} {K : PySem.W.Frag} {h : Heap} {mg : Str → Option Value} {base : Heap} (kx : K.In h) (G : h.Ns mainGlobals mg) (c : SaysX fa fn ts bs w K) : Fok P w K mg base "used_by" 2 ["house", "name"] f_used_by := by
  have o_row_of := ok_row_of (P := P) (w := w) (base := base) kx G c
  have o_methods_at := ok_methods_at (P := P) (w := w) (base := base) kx G c
  have g_BEGIN := He.str_ok kx G (c.d.fact 48 (f := .str "BEGIN" ("begin" : Str)) rfl)
  have g_TOP := He.str_ok kx G (c.d.fact 8 (f := .str "TOP" ("top" : Str)) rfl)
  have g_NAMES := He.glo_ok kx G (c.d.fact 49 (f := .glo "NAMES") rfl)
  have gt_NAMES := c.b 6 rfl
  have cl_House := He.cls_ok (c.d.fact 39 (f := .cls "House") rfl)
  have na_House_told : NoAttr K (He.ga K "House") "told" := He.eqO_ok (c.d.fact 40 (f := .noat "House" "told") rfl)
  have fl_told : ∀ z ∈ (["House"] : List Str), Cls K (He.ga K z) ∧ NoAttr K (He.ga K z) "told" := by
    intro z hz
    simp only [List.mem_cons, List.not_mem_nil, or_false] at hz
    rcases hz with rfl
    · exact ⟨cl_House, na_House_told⟩
  obtain ⟨fd, F⟩ := c.d.def_ 24 (d := d_used_by) rfl
  have b : Binds K fd ["house", "name"] [] := F.bindsN fun _ _ _ _ _ _ us hl => match us, hl with | [_, _], _ => rfl
  have nd := sc_used_by.nd
  refine ⟨fd, fn_dl (k := 1) (O' := []) F sc_used_by (by decide) fun cdv A outer s H E hr => ?_, b, F.kp, He.glo_ok kx G (c.d.fact 50 (f := .glo "used_by") rfl)⟩
  have hu64 := hu_64 hr
  have hu := hu_65 hr
  have tk := takes_of (X := cxOf (L2.CX P w) P w K mg base ["house", "name", "found", "method", "uses", "other", "told", "step"] "used_by" (defScope s_used_by) (He.ga K "used_by") cdv A outer s H E) rfl rfl rfl rfl
  have ps := passes_of (X := cxOf (L2.CX P w) P w K mg base ["house", "name", "found", "method", "uses", "other", "told", "step"] "used_by" (defScope s_used_by) (He.ga K "used_by") cdv A outer s H E) rfl
  exact (dss_cons (ds_lcOwn 2 nd (blkOk_by (own := [(("told" : Str), 6)]) (by kernel_rfl)) (di_seq (de_sl (de_fn o_row_of (hr.mono (by decide)) tk (da_cons (de_fld [("House" : Str)] fl_told (dv 0)) (da_cons (dv 1) da_nil)) (aCons_len (aCons_len aNil_len))) do_none (do_some de_int))) (gok_name 6) (fun _ _ _ _ _ => ((dg_name (O := []) 6 nd)).pg) town_name (fun _ _ _ _ _ => dcs_nil) (fun _ _ _ _ _ => (de_sub hu64 (dv 6) de_int)) (by rfl))
  (dss_cons (ds_for ps (di_seq (de_fn o_methods_at (hr.mono (by decide)) tk (da_cons (dv 0) (da_cons (dv 1) da_nil)) (aCons_len (aCons_len aNil_len)))) (dg_name 3 nd) (dss_one (ds_if (O' := [2]) (dt_bool (dw_and (dt_cmp (op_eqd hu64) (de_sub hu64 (dv 3) de_int) (de_gstr g_BEGIN)) (dw_and1 (dt_cmp (op_eqe hu64) (de_sub hu64 (dv 3) de_int) (de_tup da_nil))))) (dss_one (ds_ext 2 (de_lc nd (blkOk_by (own := [(("step" : Str), 7)]) (by kernel_rfl)) (di_seq (de_sub hu64 (dv 3) de_int)) (gok_name 7) (fun _ _ _ _ _ => ((dg_name (O := []) 7 nd)).pg) town_name (fun _ _ _ _ _ => (dcs_one (dt_cmp (op_ind hu) (de_sub hu64 (dv 7) de_int) (de_gtup (ts := [.str ("new" : Str), .str ("get" : Str), .str ("put" : Str), .str ("call" : Str), .str ("cast" : Str), .str ("is" : Str)]) g_NAMES gt_NAMES)))) (fun _ _ _ _ _ => (de_sub hu64 (dv 7) de_int))))) dss_nil)))
  (dss_cons (ds_own 4 (de_lst da_nil) nd)
  (dss_cons (DS.pre (O1 := [4]) (ds_for ps (di_seq (dv 2)) (dg_name 5 nd) (dss_one (ds_if (O' := [4]) (dt_bool (dw_and (dt_cmp (op_notInd hu) (dv 5) (de_tup (da_cons (de_gstr g_TOP) (da_cons (dv 1) da_nil)))) (dw_and1 (dt_cmp (op_notInd hu) (dv 5) (dvb 4))))) (dss_one (ds_app 4 (dv 5))) dss_nil))))
  (dss_one (DS.pre (O1 := []) (ds_ret (dv 4))))))))
theorem sc_led_from : FnScope ["house", "name", "found", "line", "other"] ["house", "name"] (defScope s_led_from) := ⟨rfl, rfl, rfl, by decide +kernel, rfl, by decide +kernel, by decide +kernel⟩
theorem ok_led_from {P : Program} {w : World} {K : PySem.W.Frag} {h : Heap} {mg : Str → Option Value} {base : Heap} (kx : K.In h) (G : h.Ns mainGlobals mg) (c : SaysX fa fn ts bs w K) : Fok P w K mg base "led_from" 3 ["house", "name"] f_led_from := by
  have o_used_by := ok_used_by (P := P) (w := w) (base := base) kx G c
  obtain ⟨fd, F⟩ := c.d.def_ 25 (d := d_led_from) rfl
  have b : Binds K fd ["house", "name"] [] := F.bindsN fun _ _ _ _ _ _ us hl => match us, hl with | [_, _], _ => rfl
  have nd := sc_led_from.nd
  refine ⟨fd, fn_dl (k := 2) (O' := []) F sc_led_from (by decide) fun cdv A outer s H E hr => ?_, b, F.kp, He.glo_ok kx G (c.d.fact 51 (f := .glo "led_from") rfl)⟩
  have hu64 := hu_64 hr
  have hu := hu_65 hr
  have tk := takes_of (X := cxOf (L2.CX P w) P w K mg base ["house", "name", "found", "line", "other"] "led_from" (defScope s_led_from) (He.ga K "led_from") cdv A outer s H E) rfl rfl rfl rfl
  have ps := passes_of (X := cxOf (L2.CX P w) P w K mg base ["house", "name", "found", "line", "other"] "led_from" (defScope s_led_from) (He.ga K "led_from") cdv A outer s H E) rfl
  exact (dss_cons (ds_par 2 3 (dak_f de_newK (dak_e (de_obj (de_lst (da_cons (dv 1) da_nil))) dak_nil)) nd)
  (dss_cons (ds_while ps (dt_cmp (op_ned hu64) (dv 3) (de_lst da_nil)) (dss_one (ds_for ps (di_seq (de_fn o_used_by (hr.mono (by decide)) tk (da_cons (dv 0) (da_cons (de_pop (dv 3)) da_nil)) (aCons_len (aCons_len aNil_len)))) (dg_name 4 nd) (dss_one (ds_if (O' := [2]) (dt_cmp (op_notInd hu) (dv 4) (dvb 2)) (dss_cons (ds_put 2 hu64 (dv 4) de_bl)
  (dss_one (ds_appE (dv 3) (dv 4)))) dss_nil)))))
  (dss_one (DS.pre (O1 := []) (ds_ret (dv 2))))))
theorem sc_use_rings : FnScope ["house", "names", "led", "found", "name", "ring", "told", "other"] ["house"] (defScope s_use_rings) := ⟨rfl, rfl, rfl, by decide +kernel, rfl, by decide +kernel, by decide +kernel⟩
theorem ok_use_rings {P : Program} {w : World} {K : PySem.W.Frag} {h : Heap} {mg : Str → Option Value} {base : Heap} (kx : K.In h) (G : h.Ns mainGlobals mg) (c : SaysX fa fn ts bs w K) : Fok P w K mg base "use_rings" 4 ["house"] f_use_rings := by
  have o_need_house := ok_need_house (P := P) (w := w) (base := base) kx G c
  have o_led_from := ok_led_from (P := P) (w := w) (base := base) kx G c
  have h_tuple := He.free_ok kx G (c.d.fact 6 (f := .free "tuple") rfl)
  have h_sorted := He.free_ok kx G (c.d.fact 52 (f := .free "sorted") rfl)
  have h_len := He.free_ok kx G (c.d.fact 1 (f := .free "len") rfl)
  have h_list := He.free_ok kx G (c.d.fact 42 (f := .free "list") rfl)
  have cl_House := He.cls_ok (c.d.fact 39 (f := .cls "House") rfl)
  have na_House_told : NoAttr K (He.ga K "House") "told" := He.eqO_ok (c.d.fact 40 (f := .noat "House" "told") rfl)
  have fl_told : ∀ z ∈ (["House"] : List Str), Cls K (He.ga K z) ∧ NoAttr K (He.ga K z) "told" := by
    intro z hz
    simp only [List.mem_cons, List.not_mem_nil, or_false] at hz
    rcases hz with rfl
    · exact ⟨cl_House, na_House_told⟩
  obtain ⟨fd, F⟩ := c.d.def_ 26 (d := d_use_rings) rfl
  have b : Binds K fd ["house"] [] := F.bindsN fun _ _ _ _ _ _ us hl => match us, hl with | [_], _ => rfl
  have nd := sc_use_rings.nd
  refine ⟨fd, fn_dl (k := 3) (O' := []) F sc_use_rings (by decide) fun cdv A outer s H E hr => ?_, b, F.kp, He.glo_ok kx G (c.d.fact 53 (f := .glo "use_rings") rfl)⟩
  have hu64 := hu_64 hr
  have hu := hu_65 hr
  have tk := takes_of (X := cxOf (L2.CX P w) P w K mg base ["house", "names", "led", "found", "name", "ring", "told", "other"] "use_rings" (defScope s_use_rings) (He.ga K "use_rings") cdv A outer s H E) rfl rfl rfl rfl
  have ps := passes_of (X := cxOf (L2.CX P w) P w K mg base ["house", "names", "led", "found", "name", "ring", "told", "other"] "use_rings" (defScope s_use_rings) (He.ga K "use_rings") cdv A outer s H E) rfl
  exact (dss_cons (ds_expr (de_fn o_need_house (hr.mono (by decide)) tk (da_cons (dv 0) da_nil) (aCons_len aNil_len)))
  (dss_cons (ds_lcSet 1 nd (blkOk_by (own := [(("told" : Str), 6)]) (by kernel_rfl)) (di_seq (de_fld [("House" : Str)] fl_told (dv 0))) (gok_name 6) (fun _ _ _ _ _ => ((dg_name (O := []) 6 nd)).pg) town_name (fun _ _ _ _ _ => dcs_nil) (fun _ _ _ _ _ => (de_sub hu64 (dv 6) de_int)) (by rfl))
  (dss_cons (ds_set 2 (DE.toE (de_dc nd (blkOk_by (own := [(("name" : Str), 4)]) (by kernel_rfl)) (di_seq (dv 1)) (gok_name 4) (fun _ _ _ _ _ => ((dg_name (O := []) 4 nd)).pg) town_name (fun _ _ _ _ _ => dcs_nil) (fun _ _ _ _ _ => (dv 4)) (fun _ _ _ _ _ => (de_fn o_led_from (hr.mono (by decide)) L2.takes0 (da_cons (dv 0) (da_cons (dv 4) da_nil)) (aCons_len (aCons_len aNil_len)))))) nd)
  (dss_cons (ds_own 3 de_newT nd)
  (dss_cons (ds_for ps (di_seq (dv 1)) (dg_name 4 nd) (dss_cons (ds_set 5 (de_callTy cr_tup (by rfl) h_tuple (dab_cons (de_callB (cr_sortA rfl hu64) (by rfl) h_sorted (dab_cons (de_lc nd (blkOk_by (own := [(("other" : Str), 7)]) (by kernel_rfl)) (di_seq (dv 1)) (gok_name 7) (fun _ _ _ _ _ => ((dg_name (O := []) 7 nd)).pg) town_name (fun _ _ _ _ _ => (dcs_one (dt_bool (dw_and (dt_cmp (op_ind hu) (dv 7) (de_sub hu64 (dv 2) (dv 4))) (dw_and1 (dt_cmp (op_ind hu) (dv 4) (de_sub hu64 (dv 2) (dv 7)))))))) (fun _ _ _ _ _ => (dv 7))) dab_nil)) dab_nil)) nd)
  (dss_one (ds_if (O' := [3]) (dt_cmp (op_gtd) (de_callB cr_len (by rfl) h_len (dab_cons (dv 5) dab_nil)) de_int) (dss_one (ds_put 3 hu64 (dv 5) de_bl)) dss_nil))))
  (dss_one (ds_ret (DE.toE (de_callB (cr_sortA rfl hu64) (by rfl) h_sorted (dab_cons (de_callTy (cr_lstT rfl) (by rfl) h_list (dab_cons (dvb 3) dab_nil)) dab_nil))))))))))
theorem sc_need_name : FnScope ["house", "name"] ["house", "name"] (defScope s_need_name) := ⟨rfl, rfl, rfl, by decide +kernel, rfl, by decide +kernel, by decide +kernel⟩
theorem ok_need_name {P : Program} {w : World} {K : PySem.W.Frag} {h : Heap} {mg : Str → Option Value} {base : Heap} (kx : K.In h) (G : h.Ns mainGlobals mg) (c : SaysX fa fn ts bs w K) : Fok P w K mg base "need_name" 2 ["house", "name"] f_need_name := by
  have o_names_of := ok_names_of (P := P) (w := w) (base := base) kx G c
  have h_isinstance := He.free_ok kx G (c.d.fact 10 (f := .free "isinstance") rfl)
  have h_str := He.free_ok kx G (c.d.fact 12 (f := .free "str") rfl)
  have cl_House := He.cls_ok (c.d.fact 39 (f := .cls "House") rfl)
  have na_House_told : NoAttr K (He.ga K "House") "told" := He.eqO_ok (c.d.fact 40 (f := .noat "House" "told") rfl)
  have fl_told : ∀ z ∈ (["House"] : List Str), Cls K (He.ga K z) ∧ NoAttr K (He.ga K z) "told" := by
    intro z hz
    simp only [List.mem_cons, List.not_mem_nil, or_false] at hz
    rcases hz with rfl
    · exact ⟨cl_House, na_House_told⟩
  obtain ⟨fd, F⟩ := c.d.def_ 27 (d := d_need_name) rfl
  have b : Binds K fd ["house", "name"] [] := F.bindsN fun _ _ _ _ _ _ us hl => match us, hl with | [_, _], _ => rfl
  have nd := sc_need_name.nd
  refine ⟨fd, fn_dl (k := 1) (O' := []) F sc_need_name (by decide) fun cdv A outer s H E hr => ?_, b, F.kp, He.glo_ok kx G (c.d.fact 54 (f := .glo "need_name") rfl)⟩
  have hu64 := hu_64 hr
  have hu := hu_65 hr
  have tk := takes_of (X := cxOf (L2.CX P w) P w K mg base ["house", "name"] "need_name" (defScope s_need_name) (He.ga K "need_name") cdv A outer s H E) rfl rfl rfl rfl
  have ps := passes_of (X := cxOf (L2.CX P w) P w K mg base ["house", "name"] "need_name" (defScope s_need_name) (He.ga K "need_name") cdv A outer s H E) rfl
  exact (dss_one (ds_if (O' := []) (dt_bool (dw_or (dt_not (dt_val (de_isi (is_str) (dv 1) (pe_bltn (by rfl) h_str (by rfl) (by rfl)) (.ty _) h_isinstance))) (dw_or1 (dt_cmp (op_notInd hu) (dv 1) (de_fn o_names_of (hr.mono (by decide)) tk (da_cons (de_fld [("House" : Str)] fl_told (dv 0)) da_nil) (aCons_len aNil_len)))))) (dss_one ds_never) dss_nil))
theorem sc_need_class : FnScope ["house", "name"] ["house", "name"] (defScope s_need_class) := ⟨rfl, rfl, rfl, by decide +kernel, rfl, by decide +kernel, by decide +kernel⟩
theorem ok_need_class {P : Program} {w : World} {K : PySem.W.Frag} {h : Heap} {mg : Str → Option Value} {base : Heap} (kx : K.In h) (G : h.Ns mainGlobals mg) (c : SaysX fa fn ts bs w K) : Fok P w K mg base "need_class" 3 ["house", "name"] f_need_class := by
  have o_need_house := ok_need_house (P := P) (w := w) (base := base) kx G c
  have o_need_name := ok_need_name (P := P) (w := w) (base := base) kx G c
  have g_TOP := He.str_ok kx G (c.d.fact 8 (f := .str "TOP" ("top" : Str)) rfl)
  obtain ⟨fd, F⟩ := c.d.def_ 28 (d := d_need_class) rfl
  have b : Binds K fd ["house", "name"] [] := F.bindsN fun _ _ _ _ _ _ us hl => match us, hl with | [_, _], _ => rfl
  have nd := sc_need_class.nd
  refine ⟨fd, fn_dl (k := 2) (O' := []) F sc_need_class (by decide) fun cdv A outer s H E hr => ?_, b, F.kp, He.glo_ok kx G (c.d.fact 55 (f := .glo "need_class") rfl)⟩
  have hu64 := hu_64 hr
  have hu := hu_65 hr
  have tk := takes_of (X := cxOf (L2.CX P w) P w K mg base ["house", "name"] "need_class" (defScope s_need_class) (He.ga K "need_class") cdv A outer s H E) rfl rfl rfl rfl
  have ps := passes_of (X := cxOf (L2.CX P w) P w K mg base ["house", "name"] "need_class" (defScope s_need_class) (He.ga K "need_class") cdv A outer s H E) rfl
  exact (dss_cons (ds_expr (de_fn o_need_house (hr.mono (by decide)) tk (da_cons (dv 0) da_nil) (aCons_len aNil_len)))
  (dss_cons (ds_expr (de_fn o_need_name (hr.mono (by decide)) tk (da_cons (dv 0) (da_cons (dv 1) da_nil)) (aCons_len (aCons_len aNil_len))))
  (dss_one (ds_if (O' := []) (dt_cmp (op_eqd hu64) (dv 1) (de_gstr g_TOP)) (dss_one ds_never) dss_nil))))
theorem sc_ring_to : FnScope ["house", "name", "layer", "later", "some", "other", "row"] ["house", "name"] (defScope s_ring_to) := ⟨rfl, rfl, rfl, by decide +kernel, rfl, by decide +kernel, by decide +kernel⟩
theorem ok_ring_to {P : Program} {w : World} {K : PySem.W.Frag} {h : Heap} {mg : Str → Option Value} {base : Heap} (kx : K.In h) (G : h.Ns mainGlobals mg) (c : SaysX fa fn ts bs w K) : Fok P w K mg base "ring_to" 4 ["house", "name"] f_ring_to := by
  have o_need_class := ok_need_class (P := P) (w := w) (base := base) kx G c
  have o_used_by := ok_used_by (P := P) (w := w) (base := base) kx G c
  have h_min := He.free_ok kx G (c.d.fact 56 (f := .free "min") rfl)
  obtain ⟨fd, F⟩ := c.d.def_ 29 (d := d_ring_to) rfl
  have b : Binds K fd ["house", "name"] [] := F.bindsN fun _ _ _ _ _ _ us hl => match us, hl with | [_, _], _ => rfl
  have nd := sc_ring_to.nd
  refine ⟨fd, fn_dl (k := 3) (O' := []) F sc_ring_to (by decide) fun cdv A outer s H E hr => ?_, b, F.kp, He.glo_ok kx G (c.d.fact 57 (f := .glo "ring_to") rfl)⟩
  have hu64 := hu_64 hr
  have hu := hu_65 hr
  have tk := takes_of (X := cxOf (L2.CX P w) P w K mg base ["house", "name", "layer", "later", "some", "other", "row"] "ring_to" (defScope s_ring_to) (He.ga K "ring_to") cdv A outer s H E) rfl rfl rfl rfl
  have ps := passes_of (X := cxOf (L2.CX P w) P w K mg base ["house", "name", "layer", "later", "some", "other", "row"] "ring_to" (defScope s_ring_to) (He.ga K "ring_to") cdv A outer s H E) rfl
  exact (dss_cons (ds_expr (de_fn o_need_class (hr.mono (by decide)) tk (da_cons (dv 0) (da_cons (dv 1) da_nil)) (aCons_len (aCons_len aNil_len))))
  (dss_cons (ds_set 2 (DE.toE (de_lst (da_cons (de_tup (da_cons (dv 1) da_nil)) da_nil))) nd)
  (dss_cons (ds_while ps (dt_cmp (op_ned hu64) (dv 2) (de_lst da_nil)) (dss_cons (ds_lc2Set 3 nd (blkOk_by (own := [(("row" : Str), 6), (("other" : Str), 5)]) (by kernel_rfl)) (vs1 := [5]) (by decide) (di_seq (dv 2)) (gok_name 6) (fun _ _ _ _ _ => ((dg_name (O := []) 6 nd)).pg) town_name (fun _ _ _ _ _ => dcs_nil) (fun _ _ _ _ _ => (di_seq (de_fn o_used_by (hr.mono (by decide)) L2.takes0 (da_cons (dv 0) (da_cons (de_sub hu64 (dv 6) (de_un un_negd de_int)) da_nil)) (aCons_len (aCons_len aNil_len))))) (gok_name 5) (fun _ _ _ _ _ => ((dg_name (O := []) 5 nd)).pg) town_name (fun _ _ _ _ _ => dcs_nil) (fun _ _ _ _ _ => (de_tup (da_star (dv 6) (da_cons (dv 5) da_nil)))) (by rfl))
  (dss_cons (ds_lcSet 4 nd (blkOk_by (own := [(("row" : Str), 6)]) (by kernel_rfl)) (di_seq (dv 3)) (gok_name 6) (fun _ _ _ _ _ => ((dg_name (O := []) 6 nd)).pg) town_name (fun _ _ _ _ _ => (dcs_one (dt_cmp (op_ind hu) (de_sub hu64 (dv 6) (de_un un_negd de_int)) (de_sl (dv 6) do_none (do_some (de_un un_negd de_int)))))) (fun _ _ _ _ _ => (dv 6)) (by rfl))
  (dss_cons (ds_if (O' := []) (dt_cmp (op_ned hu64) (dv 4) (de_lst da_nil)) (dss_one (ds_ret (de_callB (cr_minT rfl hu64) (by rfl) h_min (dab_cons (dv 4) dab_nil)))) dss_nil)
  (dss_one (ds_set 2 (dv 3) nd))))))
  (dss_one (ds_ret de_non)))))
theorem sc_begun : FnScope ["house", "name", "line", "done", "early", "other"] ["house", "name", "line", "done", "early"] (defScope s_begun) := ⟨rfl, rfl, rfl, by decide +kernel, rfl, by decide +kernel, by decide +kernel⟩
theorem ok_begun {P : Program} {w : World} {K : PySem.W.Frag} {h : Heap} {mg : Str → Option Value} {base : Heap} (kx : K.In h) (G : h.Ns mainGlobals mg) (c : SaysX fa fn ts bs w K) : ∀ n, Fok P w K mg base "begun" (3 + n) ["house", "name", "line", "done", "early"] (f_begun n) := by
  have o_used_by := ok_used_by (P := P) (w := w) (base := base) kx G c
  obtain ⟨fd, F⟩ := c.d.def_ 30 (d := d_begun) rfl
  have b : Binds K fd ["house", "name", "line", "done", "early"] [] := F.bindsN fun _ _ _ _ _ _ us hl => match us, hl with | [_, _, _, _, _], _ => rfl
  have nd := sc_begun.nd
  intro n
  induction n with
  | zero => exact ⟨fd, fn_dl (k := 2) (O' := []) F sc_begun (by decide) fun cdv A outer s H E hr => dss_never, b, F.kp, He.glo_ok kx G (c.d.fact 58 (f := .glo "begun") rfl)⟩
  | succ n ih =>
    have oself := ih
    refine ⟨fd, fn_dl (k := 3 + n) (O' := []) F sc_begun (by decide) fun cdv A outer s H E hr => ?_, b, F.kp, He.glo_ok kx G (c.d.fact 58 (f := .glo "begun") rfl)⟩
    have hu64 := hu_64 hr
    have hu := hu_65 hr
    have tk := takes_of (X := cxOf (L2.CX P w) P w K mg base ["house", "name", "line", "done", "early", "other"] "begun" (defScope s_begun) (He.ga K "begun") cdv A outer s H E) rfl rfl rfl rfl
    have ps := passes_of (X := cxOf (L2.CX P w) P w K mg base ["house", "name", "line", "done", "early", "other"] "begun" (defScope s_begun) (He.ga K "begun") cdv A outer s H E) rfl
    exact (dss_cons (ds_if (O' := []) (dt_bool (dw_or (dt_cmp (op_ind hu) (dv 1) (dv 3)) (dw_or1 (dt_cmp (op_ind hu) (dv 1) (dv 2))))) (dss_one ds_retN) dss_nil)
  (dss_cons (ds_for ps (di_seq (de_fn o_used_by (hr.mono (by omega)) tk (da_cons (dv 0) (da_cons (dv 1) da_nil)) (aCons_len (aCons_len aNil_len)))) (dg_name 5 nd) (dss_cons (ds_if (O' := []) (dt_bool (dw_or (dt_cmp (op_ind hu) (dv 5) (dv 2)) (dw_or1 (dt_cmp (op_eqd hu64) (dv 5) (dv 1))))) (dss_one (ds_appE (dv 4) (de_tup (da_cons (dv 1) (da_cons (dv 5) da_nil))))) dss_nil)
  (dss_one (ds_expr (de_fn oself hr tk (da_cons (dv 0) (da_cons (dv 5) (da_cons (DE.toE (de_lst (da_star (dv 2) (da_cons (dv 1) da_nil)))) (da_cons (dv 3) (da_cons (dv 4) da_nil))))) (aCons_len (aCons_len (aCons_len (aCons_len (aCons_len aNil_len))))))))))
  (dss_one (ds_appE (dv 3) (dv 1)))))
theorem sc_all_begun : FnScope ["house", "names", "done", "early", "name"] ["house", "names"] (defScope s_all_begun) := ⟨rfl, rfl, rfl, by decide +kernel, rfl, by decide +kernel, by decide +kernel⟩
theorem ok_all_begun {P : Program} {w : World} {K : PySem.W.Frag} {h : Heap} {mg : Str → Option Value} {base : Heap} (kx : K.In h) (G : h.Ns mainGlobals mg) (c : SaysX fa fn ts bs w K) : Fok P w K mg base "all_begun" 13 ["house", "names"] f_all_begun := by
  have o_begun := ok_begun (P := P) (w := w) (base := base) kx G c 9
  obtain ⟨fd, F⟩ := c.d.def_ 31 (d := d_all_begun) rfl
  have b : Binds K fd ["house", "names"] [] := F.bindsN fun _ _ _ _ _ _ us hl => match us, hl with | [_, _], _ => rfl
  have nd := sc_all_begun.nd
  refine ⟨fd, fn_dl (k := 12) (O' := []) F sc_all_begun (by decide) fun cdv A outer s H E hr => ?_, b, F.kp, He.glo_ok kx G (c.d.fact 59 (f := .glo "all_begun") rfl)⟩
  have hu64 := hu_64 hr
  have hu := hu_65 hr
  have tk := takes_of (X := cxOf (L2.CX P w) P w K mg base ["house", "names", "done", "early", "name"] "all_begun" (defScope s_all_begun) (He.ga K "all_begun") cdv A outer s H E) rfl rfl rfl rfl
  have ps := passes_of (X := cxOf (L2.CX P w) P w K mg base ["house", "names", "done", "early", "name"] "all_begun" (defScope s_all_begun) (He.ga K "all_begun") cdv A outer s H E) rfl
  exact (dss_cons (ds_par 2 3 (dak_e (de_obj (de_lst da_nil)) (dak_e (de_obj (de_lst da_nil)) dak_nil)) nd)
  (dss_cons (ds_for ps (di_seq (dv 1)) (dg_name 4 nd) (dss_one (ds_expr (de_fn o_begun (hr.mono (by decide)) tk (da_cons (dv 0) (da_cons (dv 4) (da_cons (DE.toE (de_lst da_nil)) (da_cons (dv 2) (da_cons (dv 3) da_nil))))) (aCons_len (aCons_len (aCons_len (aCons_len (aCons_len aNil_len)))))))))
  (dss_one (ds_ret (de_tup (da_cons (dv 2) (da_cons (dv 3) da_nil)))))))
theorem sc_is_early : FnScope ["house", "name"] ["house", "name"] (defScope s_is_early) := ⟨rfl, rfl, rfl, by decide +kernel, rfl, by decide +kernel, by decide +kernel⟩
theorem ok_is_early {P : Program} {w : World} {K : PySem.W.Frag} {h : Heap} {mg : Str → Option Value} {base : Heap} (kx : K.In h) (G : h.Ns mainGlobals mg) (c : SaysX fa fn ts bs w K) : Fok P w K mg base "is_early" 14 ["house", "name"] f_is_early := by
  have o_need_class := ok_need_class (P := P) (w := w) (base := base) kx G c
  have o_all_begun := ok_all_begun (P := P) (w := w) (base := base) kx G c
  obtain ⟨fd, F⟩ := c.d.def_ 32 (d := d_is_early) rfl
  have b : Binds K fd ["house", "name"] [] := F.bindsN fun _ _ _ _ _ _ us hl => match us, hl with | [_, _], _ => rfl
  have nd := sc_is_early.nd
  refine ⟨fd, fn_dl (k := 13) (O' := []) F sc_is_early (by decide) fun cdv A outer s H E hr => ?_, b, F.kp, He.glo_ok kx G (c.d.fact 60 (f := .glo "is_early") rfl)⟩
  have hu64 := hu_64 hr
  have hu := hu_65 hr
  have tk := takes_of (X := cxOf (L2.CX P w) P w K mg base ["house", "name"] "is_early" (defScope s_is_early) (He.ga K "is_early") cdv A outer s H E) rfl rfl rfl rfl
  have ps := passes_of (X := cxOf (L2.CX P w) P w K mg base ["house", "name"] "is_early" (defScope s_is_early) (He.ga K "is_early") cdv A outer s H E) rfl
  exact (dss_cons (ds_expr (de_fn o_need_class (hr.mono (by decide)) tk (da_cons (dv 0) (da_cons (dv 1) da_nil)) (aCons_len (aCons_len aNil_len))))
  (dss_one (ds_ret (de_cmp (op_ned hu64) (de_sub hu64 (de_fn o_all_begun (hr.mono (by decide)) tk (da_cons (dv 0) (da_cons (DE.toE (de_lst (da_cons (dv 1) da_nil))) da_nil)) (aCons_len (aCons_len aNil_len))) de_int) (de_lst da_nil)))))
theorem sc_need_names : FnScope ["house", "names", "known", "index", "name", "told"] ["house", "names"] (defScope s_need_names) := ⟨rfl, rfl, rfl, by decide +kernel, rfl, by decide +kernel, by decide +kernel⟩
theorem ok_need_names {P : Program} {w : World} {K : PySem.W.Frag} {h : Heap} {mg : Str → Option Value} {base : Heap} (kx : K.In h) (G : h.Ns mainGlobals mg) (c : SaysX fa fn ts bs w K) : Fok P w K mg base "need_names" 2 ["house", "names"] f_need_names := by
  have o_need_house := ok_need_house (P := P) (w := w) (base := base) kx G c
  have h_isinstance := He.free_ok kx G (c.d.fact 10 (f := .free "isinstance") rfl)
  have h_list := He.free_ok kx G (c.d.fact 42 (f := .free "list") rfl)
  have h_tuple := He.free_ok kx G (c.d.fact 6 (f := .free "tuple") rfl)
  have h_enumerate := He.free_ok kx G (c.d.fact 31 (f := .free "enumerate") rfl)
  have h_str := He.free_ok kx G (c.d.fact 12 (f := .free "str") rfl)
  have cl_House := He.cls_ok (c.d.fact 39 (f := .cls "House") rfl)
  have na_House_told : NoAttr K (He.ga K "House") "told" := He.eqO_ok (c.d.fact 40 (f := .noat "House" "told") rfl)
  have fl_told : ∀ z ∈ (["House"] : List Str), Cls K (He.ga K z) ∧ NoAttr K (He.ga K z) "told" := by
    intro z hz
    simp only [List.mem_cons, List.not_mem_nil, or_false] at hz
    rcases hz with rfl
    · exact ⟨cl_House, na_House_told⟩
  obtain ⟨fd, F⟩ := c.d.def_ 33 (d := d_need_names) rfl
  have b : Binds K fd ["house", "names"] [] := F.bindsN fun _ _ _ _ _ _ us hl => match us, hl with | [_, _], _ => rfl
  have nd := sc_need_names.nd
  refine ⟨fd, fn_dl (k := 1) (O' := []) F sc_need_names (by decide) fun cdv A outer s H E hr => ?_, b, F.kp, He.glo_ok kx G (c.d.fact 61 (f := .glo "need_names") rfl)⟩
  have hu64 := hu_64 hr
  have hu := hu_65 hr
  have tk := takes_of (X := cxOf (L2.CX P w) P w K mg base ["house", "names", "known", "index", "name", "told"] "need_names" (defScope s_need_names) (He.ga K "need_names") cdv A outer s H E) rfl rfl rfl rfl
  have ps := passes_of (X := cxOf (L2.CX P w) P w K mg base ["house", "names", "known", "index", "name", "told"] "need_names" (defScope s_need_names) (He.ga K "need_names") cdv A outer s H E) rfl
  exact (dss_cons (ds_expr (de_fn o_need_house (hr.mono (by decide)) tk (da_cons (dv 0) da_nil) (aCons_len aNil_len)))
  (dss_cons (ds_if (O' := []) (dt_not (dt_val (de_isiT (is_list_tuple) (dv 1) (pa_cons (pe_bltn (by rfl) h_list (by rfl) (by rfl)) (pa_cons (pe_bltn (by rfl) h_tuple (by rfl) (by rfl)) pa_nil)) (.cons (.ty _) (.cons (.ty _) .nil)) (hm := h_isinstance)))) (dss_one ds_never) dss_nil)
  (dss_cons (ds_lcSet 2 nd (blkOk_by (own := [(("told" : Str), 5)]) (by kernel_rfl)) (di_seq (de_fld [("House" : Str)] fl_told (dv 0))) (gok_name 5) (fun _ _ _ _ _ => ((dg_name (O := []) 5 nd)).pg) town_name (fun _ _ _ _ _ => dcs_nil) (fun _ _ _ _ _ => (de_sub hu64 (dv 5) de_int)) (by rfl))
  (dss_one (ds_for ps (di_en (da_cons (dv 1) da_nil) h_enumerate) (dg_tup (dgs_cons (dg_name 3 nd) (dgs_cons (dg_name 4 nd) dgs_nil))) (dss_one (ds_if (O' := []) (dt_bool (dw_or (dt_not (dt_val (de_isi (is_str) (dv 4) (pe_bltn (by rfl) h_str (by rfl) (by rfl)) (.ty _) h_isinstance))) (dw_or1 (dt_cmp (op_notInd hu) (dv 4) (dv 2))))) (dss_one ds_never) dss_nil)))))))
theorem sc_met_early : FnScope ["house", "names"] ["house", "names"] (defScope s_met_early) := ⟨rfl, rfl, rfl, by decide +kernel, rfl, by decide +kernel, by decide +kernel⟩
theorem ok_met_early {P : Program} {w : World} {K : PySem.W.Frag} {h : Heap} {mg : Str → Option Value} {base : Heap} (kx : K.In h) (G : h.Ns mainGlobals mg) (c : SaysX fa fn ts bs w K) : Fok P w K mg base "met_early" 14 ["house", "names"] f_met_early := by
  have o_need_names := ok_need_names (P := P) (w := w) (base := base) kx G c
  have o_all_begun := ok_all_begun (P := P) (w := w) (base := base) kx G c
  obtain ⟨fd, F⟩ := c.d.def_ 34 (d := d_met_early) rfl
  have b : Binds K fd ["house", "names"] [] := F.bindsN fun _ _ _ _ _ _ us hl => match us, hl with | [_, _], _ => rfl
  have nd := sc_met_early.nd
  refine ⟨fd, fn_dl (k := 13) (O' := []) F sc_met_early (by decide) fun cdv A outer s H E hr => ?_, b, F.kp, He.glo_ok kx G (c.d.fact 62 (f := .glo "met_early") rfl)⟩
  have hu64 := hu_64 hr
  have hu := hu_65 hr
  have tk := takes_of (X := cxOf (L2.CX P w) P w K mg base ["house", "names"] "met_early" (defScope s_met_early) (He.ga K "met_early") cdv A outer s H E) rfl rfl rfl rfl
  have ps := passes_of (X := cxOf (L2.CX P w) P w K mg base ["house", "names"] "met_early" (defScope s_met_early) (He.ga K "met_early") cdv A outer s H E) rfl
  exact (dss_cons (ds_expr (de_fn o_need_names (hr.mono (by decide)) tk (da_cons (dv 0) (da_cons (dv 1) da_nil)) (aCons_len (aCons_len aNil_len))))
  (dss_one (ds_ret (de_sub hu64 (de_fn o_all_begun (hr.mono (by decide)) tk (da_cons (dv 0) (da_cons (dv 1) da_nil)) (aCons_len (aCons_len aNil_len))) de_int))))
theorem sc_law : FnScope ["_law_script", "_law_row", "_law_classes", "_law_names", "_law_house", "_law_led_here", "_law_due", "_law_name", "_law_ring", "_law_is_led", "_law_rows", "_law_best", "_law_turn", "_law_longer", "_law_told", "_law_good", "_law_other"] ["_law_script"] (defScope s_law) := ⟨rfl, rfl, rfl, by decide +kernel, rfl, by decide +kernel, by decide +kernel⟩
theorem ok_law {P : Program} {w : World} {K : PySem.W.Frag} {h : Heap} {mg : Str → Option Value} (kx : K.In h) (G : h.Ns mainGlobals mg) (c : SaysX fa fn ts bs w K) :
    ∃ fd : FuncData, (∀ (s : Shared) (u : Value), BindsTo s fd ⟨[u], []⟩ [("_law_script", u)]) ∧ mg "law" = some (.ref (He.ga K "law")) ∧ ∀ base : Heap, FnOk P w K mg base (L2.CX P w) 15 (He.ga K "law") fd ["_law_script"] (spD K 1 f_law) := by
  obtain ⟨fd, F⟩ := c.d.def_ 35 (d := d_law) rfl
  have nd := sc_law.nd
  refine ⟨fd, fun s u => F.bindsA (ps := ["_law_script"]) (fun _ _ _ _ _ _ us hl => match us, hl with | [_], _ => rfl) s [u] rfl, He.glo_ok kx G (c.d.fact 64 (f := .glo "law") rfl), fun base => ?_⟩
  have o__law_begins := ok__law_begins (P := P) (w := w) (base := base) kx G c
  have o_House___init__ := ok_House___init__ (P := P) (w := w) (base := base) kx G c
  have o__law_led := ok__law_led (P := P) (w := w) (base := base) kx G c
  have o__law_alike := ok__law_alike (P := P) (w := w) (base := base) kx G c 9
  have o_use_rings := ok_use_rings (P := P) (w := w) (base := base) kx G c
  have o__law_uses := ok__law_uses (P := P) (w := w) (base := base) kx G c
  have o_ring_to := ok_ring_to (P := P) (w := w) (base := base) kx G c
  have o_is_early := ok_is_early (P := P) (w := w) (base := base) kx G c
  have o_met_early := ok_met_early (P := P) (w := w) (base := base) kx G c
  have h_tuple := He.free_ok kx G (c.d.fact 6 (f := .free "tuple") rfl)
  have h_sorted := He.free_ok kx G (c.d.fact 52 (f := .free "sorted") rfl)
  have h_int := He.free_ok kx G (c.d.fact 0 (f := .free "int") rfl)
  have h_len := He.free_ok kx G (c.d.fact 1 (f := .free "len") rfl)
  have h_range := He.free_ok kx G (c.d.fact 4 (f := .free "range") rfl)
  have cl_House := He.cls_ok (c.d.fact 39 (f := .cls "House") rfl)
  have mk_House := He.mkr_ok (c.d.fact 63 (f := .mkr "House") rfl)
  have n_House := He.glo_ok kx G (c.d.fact 45 (f := .glo "House") rfl)
  refine fn_dl (k := 14) (O' := []) F sc_law (by decide) fun cdv A outer s H E hr => ?_
  have hu64 := hu_64 hr
  have hu := hu_65 hr
  have tk := takes_of (X := cxOf (L2.CX P w) P w K mg base ["_law_script", "_law_row", "_law_classes", "_law_names", "_law_house", "_law_led_here", "_law_due", "_law_name", "_law_ring", "_law_is_led", "_law_rows", "_law_best", "_law_turn", "_law_longer", "_law_told", "_law_good", "_law_other"] "law" (defScope s_law) (He.ga K "law") cdv A outer s H E) rfl rfl rfl rfl
  have ps := passes_of (X := cxOf (L2.CX P w) P w K mg base ["_law_script", "_law_row", "_law_classes", "_law_names", "_law_house", "_law_led_here", "_law_due", "_law_name", "_law_ring", "_law_is_led", "_law_rows", "_law_best", "_law_turn", "_law_longer", "_law_told", "_law_good", "_law_other"] "law" (defScope s_law) (He.ga K "law") cdv A outer s H E) rfl
  exact (dss_cons (ds_newO 1 (da_cons (dv 0) (da_cons de_int (da_cons de_int (da_cons de_int da_nil)))) nd (aCons_len (aCons_len (aCons_len (aCons_len aNil_len)))))
  (dss_cons (ds_unp (de_fn o__law_begins (hr.mono (by decide)) tk (da_cons (dv 1) da_nil) (aCons_len aNil_len)) (dg_tup (dgs_cons (dg_name 2 nd) (dgs_cons (dg_name 3 nd) dgs_nil))))
  (dss_cons (ds_parT [4, 5, 6] (dak_e (de_make mk_House o_House___init__ (hr.mono (by decide)) tk n_House (da_cons (dv 2) da_nil) (aCons_len aNil_len)) (dak_f de_newK (dak_e (DE.toE (de_lst da_nil)) dak_nil))) (pgs_cons (pg_name nd (by rfl) (by first | exact Or.inl rfl | exact Or.inr rfl) (by first | exact .inl rfl | exact .inr rfl)) (pgs_cons (pg_name nd (by rfl) (by first | exact Or.inl rfl | exact Or.inr rfl) (by first | exact .inl rfl | exact .inr rfl)) (pgs_cons (pg_name nd (by rfl) (by first | exact Or.inl rfl | exact Or.inr rfl) (by first | exact .inl rfl | exact .inr rfl)) pgs_nil))))
  (dss_cons (ds_for ps (di_seq (dv 3)) (dg_name 7 nd) (dss_one (ds_put 5 hu64 (dv 7) (de_fn o__law_led (hr.mono (by decide)) tk (da_cons (dv 2) (da_cons (dv 7) da_nil)) (aCons_len (aCons_len aNil_len))))))
  (dss_cons (ds_for ps (di_seq (dv 3)) (dg_name 7 nd) (dss_cons (ds_set 8 (de_callTy cr_tup (by rfl) h_tuple (dab_cons (de_callB (cr_sortA rfl hu64) (by rfl) h_sorted (dab_cons (de_lc nd (blkOk_by (own := [(("_law_other" : Str), 16)]) (by kernel_rfl)) (di_seq (dv 3)) (gok_name 16) (fun _ _ _ _ _ => ((dg_name (O := []) 16 nd)).pg) town_name (fun _ _ _ _ _ => (dcs_one (dt_bool (dw_and (dt_cmp (op_ind hu) (dv 16) (de_sub hu64 (dvb 5) (dv 7))) (dw_and1 (dt_cmp (op_ind hu) (dv 7) (de_sub hu64 (dvb 5) (dv 16)))))))) (fun _ _ _ _ _ => (dv 16))) dab_nil)) dab_nil)) nd)
  (dss_one (ds_set 6 (de_bin op_addd (dv 6) (de_rep (de_lst (da_cons (dv 8) da_nil)) (de_callTy cr_int (by rfl) h_int (dab_cons (de_and (de_cmp (op_gtd) (de_callB cr_len (by rfl) h_len (dab_cons (dv 8) dab_nil)) de_int) (de_one (de_cmp (op_notInd hu) (dv 8) (dv 6)))) dab_nil)))) nd))))
  (dss_cons (ds_if (O' := [5]) (dt_not (dt_val (de_fn o__law_alike (hr.mono (by decide)) tk (da_cons (de_fn o_use_rings (hr.mono (by decide)) tk (da_cons (dv 4) da_nil) (aCons_len aNil_len)) (da_cons (DE.toE (de_callB (cr_sortA rfl hu64) (by rfl) h_sorted (dab_cons (dv 6) dab_nil))) da_nil)) (aCons_len (aCons_len aNil_len))))) (dss_one (ds_ret de_bl)) dss_nil)
  (dss_cons (ds_for ps (di_seq (dv 3)) (dg_name 7 nd) (dss_cons (ds_set 9 (de_cmp (op_ned hu64) (de_lc nd (blkOk_by (own := [(("_law_other" : Str), 16)]) (by kernel_rfl)) (di_seq (de_bin op_addd (de_lst (da_cons (dv 7) da_nil)) (de_sub hu64 (dvb 5) (dv 7)))) (gok_name 16) (fun _ _ _ _ _ => ((dg_name (O := []) 16 nd)).pg) town_name (fun _ _ _ _ _ => (dcs_one (dt_cmp (op_ind hu) (dv 16) (de_sub hu64 (dvb 5) (dv 16))))) (fun _ _ _ _ _ => (dv 16))) (de_lst da_nil)) nd)
  (dss_cons (ds_par 10 11 (dak_e (DE.toE (de_lst (da_cons (de_tup (da_cons (dv 7) da_nil)) da_nil))) (dak_e de_non dak_nil)) nd)
  (dss_cons (ds_for ps (di_range1 (da_cons (de_callB cr_len (by rfl) h_len (dab_cons (dv 3) dab_nil)) da_nil) h_range) (dg_name 12 nd) (dss_cons (ds_set 13 (DE.toE (de_lst da_nil)) nd)
  (dss_cons (ds_for ps (di_seq (dv 10)) (dg_name 14 nd) (dss_one (ds_set 13 (de_bin op_addd (dv 13) (de_lc nd (blkOk_by (own := [(("_law_other" : Str), 16)]) (by kernel_rfl)) (di_seq (de_fn o__law_uses (hr.mono (by decide)) tk (da_cons (dv 2) (da_cons (de_sub hu64 (dv 14) (de_un un_negd de_int)) da_nil)) (aCons_len (aCons_len aNil_len)))) (gok_name 16) (fun _ _ _ _ _ => ((dg_name (O := []) 16 nd)).pg) town_name (fun _ _ _ _ _ => dcs_nil) (fun _ _ _ _ _ => (de_bin op_addd (dv 14) (de_tup (da_cons (dv 16) da_nil)))))) nd)))
  (dss_cons (ds_set 10 (dv 13) nd)
  (dss_cons (ds_set 15 (DE.toE (de_callB (cr_sortA rfl hu64) (by rfl) h_sorted (dab_cons (de_lc nd (blkOk_by (own := [(("_law_told" : Str), 14)]) (by kernel_rfl)) (di_seq (dv 10)) (gok_name 14) (fun _ _ _ _ _ => ((dg_name (O := []) 14 nd)).pg) town_name (fun _ _ _ _ _ => (dcs_one (dt_cmp (op_ind hu) (de_sub hu64 (dv 14) (de_un un_negd de_int)) (de_sl (dv 14) do_none (do_some (de_un un_negd de_int)))))) (fun _ _ _ _ _ => (dv 14))) dab_nil))) nd)
  (dss_cons (ds_set 11 (de_ifx (k := .e) (dt_bool (dw_and (dt_isN (dv 11)) (dw_and1 (dt_cmp (op_ned hu64) (dv 15) (de_lst da_nil))))) (de_sub hu64 (dv 15) de_int) (dv 11)) nd)
  (dss_one (ds_lcSet 10 nd (blkOk_by (own := [(("_law_told" : Str), 14)]) (by kernel_rfl)) (di_seq (dv 10)) (gok_name 14) (fun _ _ _ _ _ => ((dg_name (O := []) 14 nd)).pg) town_name (fun _ _ _ _ _ => (dcs_one (dt_cmp (op_notInd hu) (de_sub hu64 (dv 14) (de_un un_negd de_int)) (de_sl (dv 14) do_none (do_some (de_un un_negd de_int)))))) (fun _ _ _ _ _ => (dv 14)) (by rfl)))))))))
  (dss_cons (ds_if (O' := [5]) (dt_bool (dw_or (dt_cmp (op_ned hu64) (de_notN (dv 11)) (dv 9)) (dw_or1 (dt_not (dt_val (de_fn o__law_alike (hr.mono (by decide)) tk (da_cons (de_fn o_ring_to (hr.mono (by decide)) tk (da_cons (dv 4) (da_cons (dv 7) da_nil)) (aCons_len (aCons_len aNil_len))) (da_cons (dv 11) da_nil)) (aCons_len (aCons_len aNil_len)))))))) (dss_one (ds_ret de_bl)) dss_nil)
  (dss_one (ds_if (O' := [5]) (dt_bool (dw_or (dt_not (dt_val (de_fn o__law_alike (hr.mono (by decide)) tk (da_cons (de_fn o_is_early (hr.mono (by decide)) tk (da_cons (dv 4) (da_cons (dv 7) da_nil)) (aCons_len (aCons_len aNil_len))) (da_cons (dv 9) da_nil)) (aCons_len (aCons_len aNil_len))))) (dw_or1 (dt_cmp (op_ned hu64) (de_cmp (op_ned hu64) (de_fn o_met_early (hr.mono (by decide)) tk (da_cons (dv 4) (da_cons (DE.toE (de_lst (da_cons (dv 7) da_nil))) da_nil)) (aCons_len (aCons_len aNil_len))) (de_lst da_nil)) (dv 9))))) (dss_one (ds_ret de_bl)) dss_nil)))))))
  (dss_one (ds_ret de_bl)))))))))
end K86

set_option maxHeartbeats 0
open PySem PySem.W PySem.Calls PyProof.Rows
theorem PySem.Challenge.cw_classhouse_k86_whole_use_rings_holds : PySem.Challenge.rw_classhouse_k86_whole_use_rings.Holds := by
  w_on; o_law
  refine HandSHeadRun.head_any (r := K86.R) (q := view K86.R.prog [63]) (H := K86.hk) (ob := K86.ob) (M := 6000) (loose := K86.loose) (d := HandSHeadRun.topDef K86.R.prog 63) (kwd := []) K86.ob_eq
    (by kernel_rfl) (fun s => by kernel_rfl) K86.run (by kernel_rfl) (by kernel_rfl) (by kernel_rfl) (by rfl) (by first | assumption | decide +kernel) (by decide +kernel) ⟨rfl, rfl, rfl, rfl, rfl, by decide +kernel⟩ ?hw ?hc
  case hw => w_witness2
  case hc =>
    refine LamX.walk_ofTsE (l := PySem.Challenge.rw_classhouse_k86_whole_use_rings) (n := 63) (k := 15) (x := "_law_script") (CX := L2.CX (PySem.Challenge.rw_classhouse_k86_whole_use_rings).prog) rfl (by decide) (by kernel_rfl) ⟨rfl, by decide, by decide⟩ ?F fun w => DL.noCX w
    intro w mg fa h Y G hmg0
    obtain ⟨K, KX, c⟩ := Y
    have hmg : mg ("law" : PySem.Str) = some (.ref fa) := by
      have e : (HandSHeadRun.topDef K86.R.prog 63).name = ("law" : PySem.Str) := by kernel_rfl
      rw [← e]
      exact hmg0
    exact ⟨K, KX, DL.lawAt K86.law_ok hmg (K86.ok_law KX G c)⟩

