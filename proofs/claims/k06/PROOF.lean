import PyProof.Rows.All
import Wide.All
import OpenK.AllK
import Wide.FinOn
import HandS.ForMost
import HandS.Exc
import HandS.HeadHook2
import HandS.TupAny
import HandS.TupMul
import HandS.Wide
import HandS.Zip
import HandS.NoneIn
import HandS.IsInst
import KE.LtData
import KE.SortData
import KE.DatumIndex
import KE.DataMinMax
import KE.GoesEnum
import HandS.Style
import HandS.Defaults
import KE.GoesMore
import HandS.Ends
import HandS.EndBits
import HandS.HeadEnd
import HandS.Text
import HandS.ForSpec
import HandS.Head2
import PySem.Challenge.RW_lentbeside_k06_texts_that_are_wrong
set_option Elab.async false
set_option linter.all false
set_option maxRecDepth 100000
set_option maxHeartbeats 4000000
set_option autoImplicit false
/-! D layer, part 1: data values, the store of mutable objects, how they stand in the abstract heap; judgements over data. -/
namespace DL
open PySem PySem.Spec PyProof.Rows L2

/-- a value as data: tuples and unchanging lists are trees; ref i is the i-th mutable object -/
inductive DV where
  | non | bl (b : Bool) | int (i : Int) | str (x : Str) | ty (n : String) | adr (a : Addr) | ref (i : Nat) | dct | dcx
  | tup (ds : List DV) | lst (ds : List DV) | frz (ds : List DV) | ins (C : Str) (f : Str) (d : DV)
/-- a mutable object -/
inductive DO where
  | lst (ds : List DV) | ins (C : Str) (fs : List (Str × DV)) | dct (kvs : List (List Int × DV))
abbrev Store := List (Option DO)
abbrev DEnv := List (Option DV)
structure Exn where
  cls : Str
  fs : Option (List (Str × DV))
/-- where the mutable objects stand; what is never changed; what is kept apart for now -/
structure AG where
  A : List Addr
  G : Hp
  F : Hp
  T : List (Addr × Str)
structure Ext (Γ Γ' : AG) : Prop where
  pre : ∃ B, Γ'.A = Γ.A ++ B
  sub : ∀ a o, Γ.G a = some o → Γ'.G a = some o
  eqF : Γ'.F = Γ.F
  eqT : Γ'.T = Γ.T
theorem Ext.refl (Γ : AG) : Ext Γ Γ := ⟨⟨[], by simp⟩, fun _ _ h => h, rfl, rfl⟩
theorem Ext.trans {Γ Γ1 Γ2 : AG} (h : Ext Γ Γ1) (g : Ext Γ1 Γ2) : Ext Γ Γ2 := by
  obtain ⟨⟨B, e1⟩, s1, f1, t1⟩ := h
  obtain ⟨⟨B', e2⟩, s2, f2, t2⟩ := g
  exact ⟨⟨B ++ B', by rw [e2, e1, List.append_assoc]⟩, fun a o q => s2 a o (s1 a o q), by rw [f2, f1], by rw [t2, t1]⟩
theorem Ext.at {Γ Γ' : AG} (h : Ext Γ Γ') {i : Nat} {a : Addr} (e : Γ.A[i]? = some a) : Γ'.A[i]? = some a := by
  obtain ⟨⟨B, eB⟩, _, _, _⟩ := h
  rw [eB, List.getElem?_append_left (List.getElem?_eq_some_iff.mp e).1]
  exact e

mutual
def RVa (K : PySem.W.Frag) (A : List Addr) (G : Hp) : DV → V → Prop
  | .non, v => v = .non
  | .bl b, v => v = .bl b
  | .int i, v => v = .int i
  | .str x, v => v = .str x
  | .ty n, v => v = .ty n
  | .adr a, v => v = .ref a
  | .ref i, v => ∃ a, A[i]? = some a ∧ v = .ref a
  | .dct, v => ∃ p, v = .ref p ∧ G p = some (.dK [])
  | .dcx, v => ∃ p kvs, v = .ref p ∧ G p = some (.dK kvs)
  | .tup ds, v => ∃ p vs, v = .ref p ∧ SqT K G p vs ∧ RVsa K A G ds vs
  | .lst ds, v => ∃ p vs, v = .ref p ∧ G p = some (.lst vs) ∧ RVsa K A G ds vs
  | .frz ds, v => ∃ p vs, v = .ref p ∧ SqL K G p vs ∧ RVsa K A G ds vs
  | .ins C f d, v => ∃ p dx u, v = .ref p ∧ G p = some (.ins (He.ga K C) dx [(f, u)]) ∧ RVa K A G d u
def RVsa (K : PySem.W.Frag) (A : List Addr) (G : Hp) : List DV → List V → Prop
  | [], vs => vs = []
  | d :: ds, vs => ∃ v us, vs = v :: us ∧ RVa K A G d v ∧ RVsa K A G ds us
end
abbrev RV (K : PySem.W.Frag) (Γ : AG) : DV → V → Prop := RVa K Γ.A Γ.G
abbrev RVs (K : PySem.W.Frag) (Γ : AG) : List DV → List V → Prop := RVsa K Γ.A Γ.G
def RFsa (K : PySem.W.Frag) (A : List Addr) (G : Hp) : List (Str × DV) → List (Str × V) → Prop
  | [], gs => gs = []
  | (f, d) :: fs, gs => ∃ v hs, gs = (f, v) :: hs ∧ RVa K A G d v ∧ RFsa K A G fs hs
abbrev RFs (K : PySem.W.Frag) (Γ : AG) : List (Str × DV) → List (Str × V) → Prop := RFsa K Γ.A Γ.G
def RDsa (K : PySem.W.Frag) (A : List Addr) (G : Hp) : List (List Int × DV) → List (List Key × V) → Prop
  | [], gs => gs = []
  | (f, d) :: fs, gs => ∃ v hs, gs = (f.map Sum.inl, v) :: hs ∧ RVa K A G d v ∧ RDsa K A G fs hs
abbrev RDs (K : PySem.W.Frag) (Γ : AG) : List (List Int × DV) → List (List Key × V) → Prop := RDsa K Γ.A Γ.G
/-- an object as data, what stands at its address -/
def ROa (K : PySem.W.Frag) (A : List Addr) (G : Hp) : DO → Option HO → Prop
  | .lst ds, o => ∃ vs, o = some (.lst vs) ∧ RVsa K A G ds vs
  | .ins C fs, o => ∃ dx gs, o = some (.ins (He.ga K C) dx gs) ∧ RFsa K A G fs gs
  | .dct kvs, o => ∃ gs, o = some (.dT gs) ∧ RDsa K A G kvs gs
abbrev RO (K : PySem.W.Frag) (Γ : AG) : DO → Option HO → Prop := ROa K Γ.A Γ.G
def RX (K : PySem.W.Frag) (Γ : AG) (x : Exn) (c : Value) (d : Option Addr) : Prop :=
  c = .ref (He.ga K x.cls) ∧ match x.fs with
    | none => d = none
    | some fs => ∃ dd gs, d = some dd ∧ Γ.G dd = some (.xd gs) ∧ RFs K Γ fs gs

section
variable {K : PySem.W.Frag} {Γ Γ' : AG}
theorem sqT_sub {G G' : Hp} {p : Addr} {vs : List V} (h : ∀ a o, G a = some o → G' a = some o) (q : SqT K G p vs) : SqT K G' p vs := by
  rcases q with (q | ⟨o, q⟩) | q
  · exact .inl (.inl (h _ _ q))
  · exact .inl (.inr ⟨o, h _ _ q⟩)
  · exact .inr q
theorem sqL_sub {G G' : Hp} {p : Addr} {vs : List V} (h : ∀ a o, G a = some o → G' a = some o) (q : SqL K G p vs) : SqL K G' p vs := by
  rcases q with (q | ⟨o, q⟩) | q
  · exact .inl (.inl (h _ _ q))
  · exact .inl (.inr ⟨o, h _ _ q⟩)
  · exact .inr q
mutual
theorem RV.mono (e : Ext Γ Γ') : ∀ (d : DV) (v : V), RV K Γ d v → RV K Γ' d v
  | .non, v, h => h
  | .bl b, v, h => h
  | .int i, v, h => h
  | .str x, v, h => h
  | .ty n, v, h => h
  | .adr a, v, h => h
  | .ref i, v, h => by
    obtain ⟨a, h1, h2⟩ := h
    exact ⟨a, e.at h1, h2⟩
  | .dct, v, h => by
    obtain ⟨p, h1, h2⟩ := h
    exact ⟨p, h1, e.sub _ _ h2⟩
  | .dcx, v, h => by
    obtain ⟨p, kvs, h1, h2⟩ := h
    exact ⟨p, kvs, h1, e.sub _ _ h2⟩
  | .tup ds, v, h => by
    obtain ⟨p, vs, h1, h2, h3⟩ := h
    exact ⟨p, vs, h1, sqT_sub e.sub h2, RVs.mono e ds vs h3⟩
  | .lst ds, v, h => by
    obtain ⟨p, vs, h1, h2, h3⟩ := h
    exact ⟨p, vs, h1, e.sub _ _ h2, RVs.mono e ds vs h3⟩
  | .frz ds, v, h => by
    obtain ⟨p, vs, h1, h2, h3⟩ := h
    exact ⟨p, vs, h1, sqL_sub e.sub h2, RVs.mono e ds vs h3⟩
  | .ins C f d, v, h => by
    obtain ⟨p, dx, u, h1, h2, h3⟩ := h
    exact ⟨p, dx, u, h1, e.sub _ _ h2, RV.mono e d u h3⟩
theorem RVs.mono (e : Ext Γ Γ') : ∀ (ds : List DV) (vs : List V), RVs K Γ ds vs → RVs K Γ' ds vs
  | [], vs, h => h
  | d :: ds, vs, h => by
    obtain ⟨v, us, h1, h2, h3⟩ := h
    exact ⟨v, us, h1, RV.mono e d v h2, RVs.mono e ds us h3⟩
end
theorem RFs.mono (e : Ext Γ Γ') : ∀ (ds : List (Str × DV)) (vs : List (Str × V)), RFs K Γ ds vs → RFs K Γ' ds vs
  | [], vs, h => h
  | (f, d) :: ds, vs, h => by
    obtain ⟨v, us, h1, h2, h3⟩ := h
    exact ⟨v, us, h1, RV.mono e d v h2, RFs.mono e ds us h3⟩
theorem RDs.mono (e : Ext Γ Γ') : ∀ (ds : List (List Int × DV)) (vs : List (List Key × V)), RDs K Γ ds vs → RDs K Γ' ds vs
  | [], vs, h => h
  | (f, d) :: ds, vs, h => by
    obtain ⟨v, us, h1, h2, h3⟩ := h
    exact ⟨v, us, h1, RV.mono e d v h2, RDs.mono e ds us h3⟩
theorem RO.mono (e : Ext Γ Γ') {d : DO} {o : Option HO} (h : RO K Γ d o) : RO K Γ' d o := by
  cases d with
  | lst ds =>
    obtain ⟨vs, h1, h2⟩ := h
    exact ⟨vs, h1, RVs.mono e _ _ h2⟩
  | ins C fs =>
    obtain ⟨dx, gs, h1, h2⟩ := h
    exact ⟨dx, gs, h1, RFs.mono e _ _ h2⟩
  | dct kvs =>
    obtain ⟨gs, h1, h2⟩ := h
    exact ⟨gs, h1, RDs.mono e _ _ h2⟩
theorem RX.mono (e : Ext Γ Γ') {x : Exn} {c : Value} {d : Option Addr} (h : RX K Γ x c d) : RX K Γ' x c d := by
  obtain ⟨c0, fs⟩ := x
  obtain ⟨h1, h2⟩ := h
  refine ⟨h1, ?_⟩
  cases fs with
  | none => exact h2
  | some fs =>
    obtain ⟨dd, gs, h3, h4, h5⟩ := h2
    exact ⟨dd, gs, h3, e.sub _ _ h4, RFs.mono e _ _ h5⟩
theorem RVs.length : ∀ {ds : List DV} {vs : List V}, RVs K Γ ds vs → ds.length = vs.length
  | [], vs, h => by
    have e : vs = [] := h
    subst e
    rfl
  | d :: ds, vs, h => by
    obtain ⟨v, us, h1, h2, h3⟩ := h
    rw [h1, List.length_cons, List.length_cons, RVs.length h3]
theorem RVs.get : ∀ {ds : List DV} {vs : List V} {i : Nat} {d : DV}, RVs K Γ ds vs → ds[i]? = some d → ∃ v, vs[i]? = some v ∧ RV K Γ d v
  | [], vs, i, d, h, e => by simp at e
  | c :: ds, vs, 0, d, h, e => by
    obtain ⟨v, us, h1, h2, h3⟩ := h
    have e2 : c = d := by simpa using e
    subst e2
    exact ⟨v, by rw [h1]; rfl, h2⟩
  | c :: ds, vs, i + 1, d, h, e => by
    obtain ⟨v, us, h1, h2, h3⟩ := h
    obtain ⟨w, h4, h5⟩ := RVs.get (i := i) h3 (by simpa using e)
    exact ⟨w, by rw [h1]; simpa using h4, h5⟩
theorem RVs.get' {ds : List DV} {vs : List V} {i : Nat} {v : V} (h : RVs K Γ ds vs) (e : vs[i]? = some v) : ∃ d, ds[i]? = some d ∧ RV K Γ d v := by
  have hl := h.length
  have hi : i < ds.length := by rw [hl]; exact (List.getElem?_eq_some_iff.mp e).1
  obtain ⟨w, h1, h2⟩ := h.get (i := i) (d := ds[i]) (by simp [hi])
  rw [e] at h1
  cases h1
  exact ⟨ds[i], by simp [hi], h2⟩
theorem RVs.append : ∀ {ds es : List DV} {vs us : List V}, RVs K Γ ds vs → RVs K Γ es us → RVs K Γ (ds ++ es) (vs ++ us)
  | [], es, vs, us, h, g => by
    have e : vs = [] := h
    rw [e]
    exact g
  | d :: ds, es, vs, us, h, g => by
    obtain ⟨v, ws, h1, h2, h3⟩ := h
    exact ⟨v, ws ++ us, by rw [h1]; rfl, h2, RVs.append h3 g⟩
theorem RVs.take : ∀ {ds : List DV} {vs : List V} (n : Nat), RVs K Γ ds vs → RVs K Γ (ds.take n) (vs.take n)
  | _, vs, 0, h => rfl
  | [], vs, n + 1, h => by
    have e : vs = [] := h
    rw [e]
    rfl
  | d :: ds, vs, n + 1, h => by
    obtain ⟨v, us, h1, h2, h3⟩ := h
    exact ⟨v, us.take n, by rw [h1]; rfl, h2, RVs.take n h3⟩
theorem RVs.drop : ∀ {ds : List DV} {vs : List V} (n : Nat), RVs K Γ ds vs → RVs K Γ (ds.drop n) (vs.drop n)
  | _, vs, 0, h => h
  | [], vs, n + 1, h => by
    have e : vs = [] := h
    rw [e]
    rfl
  | d :: ds, vs, n + 1, h => by
    obtain ⟨v, us, h1, h2, h3⟩ := h
    rw [h1]
    exact RVs.drop n h3
theorem RVs.snoc {ds : List DV} {vs : List V} {d : DV} {v : V} (h : RVs K Γ ds vs) (g : RV K Γ d v) : RVs K Γ (ds ++ [d]) (vs ++ [v]) :=
  h.append ⟨v, [], rfl, g, rfl⟩
theorem RVs.reverse : ∀ {ds : List DV} {vs : List V}, RVs K Γ ds vs → RVs K Γ ds.reverse vs.reverse
  | [], vs, h => by
    have e : vs = [] := h
    rw [e]
    rfl
  | d :: ds, vs, h => by
    obtain ⟨v, us, h1, h2, h3⟩ := h
    rw [h1, List.reverse_cons, List.reverse_cons]
    exact (RVs.reverse h3).snoc h2
theorem RVs.ints : ∀ {ns : List Int} {vs : List V}, RVs K Γ (ns.map DV.int) vs → vs = ns.map V.int
  | [], vs, h => h
  | n :: ns, vs, h => by
    obtain ⟨v, us, h1, h2, h3⟩ := h
    have e : v = V.int n := h2
    rw [h1, e, RVs.ints h3]
    rfl
theorem RVs.ofInts : ∀ (ns : List Int), RVs K Γ (ns.map DV.int) (ns.map V.int)
  | [] => rfl
  | n :: ns => ⟨_, _, rfl, rfl, RVs.ofInts ns⟩
end

/-- the object at c is a code object of the name q -/
def CodeO (c : Addr) (q : Str) : HO := .ext fun h => ∃ (oc : Obj) (vs : Array Value) (t : Tok), h.get? c = some oc ∧ oc.data = .fields vs ∧ vs[1]? = some (.str q t)
/-- a table of code objects that all bear the name q -/
def TabO (G : Hp) (q : Str) (o : Option HO) : Prop := ∃ ps : Array Value, o = some (.tbl ps) ∧ TriplesOk ps.toList ∧ ∀ (pos : Pos) (cv : Value), codeAmong pos ps.toList = some cv → ∃ c, cv = .ref c ∧ G c = some (CodeO c q)
theorem TabO.sub {G G' : Hp} {q : Str} {o : Option HO} (h : TabO G q o) (s : ∀ a u, G a = some u → G' a = some u) : TabO G' q o := by
  obtain ⟨ps, h1, h2, h3⟩ := h
  exact ⟨ps, h1, h2, fun pos cv hc => by
    obtain ⟨c, e1, e2⟩ := h3 pos cv hc
    exact ⟨c, e1, s _ _ e2⟩⟩
/-- the store over the abstract heap -/
structure Rs (K : PySem.W.Frag) (Γ : AG) (S : Store) (H : Hp) : Prop where
  sub : ∀ a o, Γ.G a = some o → H a = some o
  len : Γ.A.length = S.length
  obj : ∀ (i : Nat) (o : DO), S[i]? = some (some o) → ∃ a, Γ.A[i]? = some a ∧ Γ.G a = none ∧ RO K Γ o (H a)
  fsub : ∀ a o, Γ.F a = some o → H a = some o
  fdis : ∀ a o, Γ.F a = some o → Γ.G a = none
  fapt : ∀ (i : Nat) (a : Addr) (o : DO), S[i]? = some (some o) → Γ.A[i]? = some a → Γ.F a = none
  inj : ∀ (i j : Nat) (a : Addr) (o u : DO), S[i]? = some (some o) → S[j]? = some (some u) → Γ.A[i]? = some a → Γ.A[j]? = some a → i = j
  tab : ∀ p ∈ Γ.T, TabO Γ.G p.2 (H p.1) ∧ Γ.G p.1 = none ∧ Γ.F p.1 = none
structure Cf (K : PySem.W.Frag) (Γ : AG) (S : Store) (H : Hp) (δ : DEnv) (σ : L2.St) : Prop where
  rs : Rs K Γ S H
  len : δ.length = σ.length
  ls : ∀ (i : Nat) (d : DV), δ[i]? = some (some d) → ∃ v, σ[i]? = some (some v) ∧ RV K Γ d v

section
variable {K : PySem.W.Frag} {Γ Γ' : AG} {S S' : Store} {H H' : Hp} {δ δ' : DEnv} {σ σ' : L2.St} {p : Addr} {o : HO}
theorem RO.is {d : DO} {o : Option HO} (h : RO K Γ d o) : o ≠ none := by
  cases d with
  | lst ds =>
    obtain ⟨vs, h1, h2⟩ := h
    rw [h1]
    exact fun e => nomatch e
  | ins C fs =>
    obtain ⟨dx, gs, h1, h2⟩ := h
    rw [h1]
    exact fun e => nomatch e
  | dct kvs =>
    obtain ⟨gs, h1, h2⟩ := h
    rw [h1]
    exact fun e => nomatch e
/-- a new object that never changes -/
theorem Ext.laid (hp : Γ.G p = none) : Ext Γ ⟨Γ.A, upd Γ.G p o, Γ.F, Γ.T⟩ :=
  ⟨⟨[], by simp⟩, fun a u e => by
    show upd Γ.G p o a = some u
    rw [upd_ne (ne_of_none e hp)]
    exact e, rfl, rfl⟩
theorem Rs.noG (R : Rs K Γ S H) (hp : H p = none) : Γ.G p = none := by
  cases e : Γ.G p with
  | none => rfl
  | some u =>
    rw [R.sub p u e] at hp
    cases hp
theorem Rs.noF (R : Rs K Γ S H) (hp : H p = none) : Γ.F p = none := by
  cases e : Γ.F p with
  | none => rfl
  | some u =>
    rw [R.fsub p u e] at hp
    cases hp
theorem Rs.ext (R : Rs K Γ S H) (hp : H p = none) (o : HO) : Ext Γ ⟨Γ.A, upd Γ.G p o, Γ.F, Γ.T⟩ := Ext.laid (R.noG hp)
theorem TabO.ne {G : Hp} {q : Str} {a : Addr} (h : TabO G q (H a)) (hp : H p = none) : a ≠ p := fun e => by
  obtain ⟨ps, e1, _⟩ := h
  rw [e, hp] at e1
  cases e1
theorem RO.ntab {d : DO} {o : Option HO} {G : Hp} {q : Str} (h : RO K Γ d o) (g : TabO G q o) : False := by
  obtain ⟨ps, e, _⟩ := g
  cases d with
  | lst ds =>
    obtain ⟨vs, h1, h2⟩ := h
    rw [e] at h1
    cases h1
  | ins C fs =>
    obtain ⟨dx, gs, h1, h2⟩ := h
    rw [e] at h1
    cases h1
  | dct kvs =>
    obtain ⟨gs, h1, h2⟩ := h
    rw [e] at h1
    cases h1
theorem Rs.laid (R : Rs K Γ S H) (hp : H p = none) (o : HO) : Rs K ⟨Γ.A, upd Γ.G p o, Γ.F, Γ.T⟩ S (upd H p o) where
  sub := fun a u e => by
    have e' : upd Γ.G p o a = some u := e
    by_cases h : a = p
    · subst h
      rw [upd_same] at e'
      rw [upd_same]
      exact e'
    · rw [upd_ne h] at e'
      rw [upd_ne h]
      exact R.sub a u e'
  len := R.len
  obj := fun i u e => by
    obtain ⟨a, h1, h2, h3⟩ := R.obj i u e
    have hne : a ≠ p := fun q => by
      subst q
      exact h3.is hp
    refine ⟨a, h1, ?_, ?_⟩
    · show upd Γ.G p o a = none
      rw [upd_ne hne]
      exact h2
    · rw [upd_ne hne]
      exact h3.mono (R.ext hp o)
  inj := R.inj
  fsub := fun a u e => by
    rw [upd_ne (ne_of_none (R.fsub a u e) hp)]
    exact R.fsub a u e
  fdis := fun a u e => by
    show upd Γ.G p o a = none
    rw [upd_ne (ne_of_none (R.fsub a u e) hp)]
    exact R.fdis a u e
  fapt := R.fapt
  tab := fun q hq => by
    obtain ⟨h1, h2, h3⟩ := R.tab q hq
    have hne := h1.ne hp
    refine ⟨?_, ?_, h3⟩
    · rw [upd_ne hne]
      exact h1.sub (R.ext hp o).sub
    · show upd Γ.G p o q.1 = none
      rw [upd_ne hne]
      exact h2
/-- a new mutable object -/
theorem Ext.push (a : Addr) : Ext Γ ⟨Γ.A ++ [a], Γ.G, Γ.F, Γ.T⟩ := ⟨⟨[a], rfl⟩, fun _ _ e => e, rfl, rfl⟩
theorem Rs.push (R : Rs K Γ S H) (hp : H p = none) {d : DO} (ho : RO K Γ d (some o)) : Rs K ⟨Γ.A ++ [p], Γ.G, Γ.F, Γ.T⟩ (S ++ [some d]) (upd H p o) where
  sub := fun a u e => by
    rw [upd_ne (ne_of_none (R.sub a u e) hp)]
    exact R.sub a u e
  len := by
    show (Γ.A ++ [p]).length = (S ++ [some d]).length
    rw [List.length_append, List.length_append, R.len]
    rfl
  obj := fun i u e => by
    by_cases hi : i < S.length
    · rw [List.getElem?_append_left hi] at e
      obtain ⟨a, h1, h2, h3⟩ := R.obj i u e
      have hne : a ≠ p := fun q => by
        subst q
        exact h3.is hp
      refine ⟨a, (Ext.push p).at h1, h2, ?_⟩
      rw [upd_ne hne]
      exact h3.mono (Ext.push p)
    · rw [List.getElem?_append_right (by omega)] at e
      have hz : i - S.length = 0 := by
        have := (List.getElem?_eq_some_iff.mp e).1
        simp at this
        omega
      rw [hz] at e
      have e2 : d = u := by simpa using e
      subst e2
      refine ⟨p, ?_, R.noG hp, ?_⟩
      · show (Γ.A ++ [p])[i]? = some p
        rw [List.getElem?_append_right (by rw [R.len]; omega), R.len, hz]
        rfl
      · rw [upd_same]
        exact ho.mono (Ext.push p)
  fsub := fun a u e => by
    rw [upd_ne (ne_of_none (R.fsub a u e) hp)]
    exact R.fsub a u e
  tab := fun q hq => by
    obtain ⟨h1, h2, h3⟩ := R.tab q hq
    have hne := h1.ne hp
    refine ⟨?_, h2, h3⟩
    rw [upd_ne hne]
    exact h1
  fdis := R.fdis
  fapt := fun i a u e ha => by
    by_cases hi : i < S.length
    · rw [List.getElem?_append_left hi] at e
      have ha' : (Γ.A ++ [p])[i]? = some a := ha
      rw [List.getElem?_append_left (by rw [R.len]; exact hi)] at ha'
      exact R.fapt i a u e ha'
    · have h2 := (List.getElem?_eq_some_iff.mp e).1
      rw [List.length_append] at h2
      have h3 : i = S.length := by simp at h2; omega
      have ha' : (Γ.A ++ [p])[i]? = some a := ha
      rw [List.getElem?_append_right (by rw [R.len]; omega), R.len, h3] at ha'
      have e2 : some p = some a := by simpa using ha'
      cases e2
      exact R.noF hp
  inj := fun i j a u w ei ej hi hj => by
    have key : ∀ {k : Nat} {x : DO}, (S ++ [some d])[k]? = some (some x) → (Γ.A ++ [p])[k]? = some a → (k < S.length ∧ S[k]? = some (some x) ∧ Γ.A[k]? = some a ∧ a ≠ p) ∨ (k = S.length ∧ a = p) := by
      intro k x ek hk
      by_cases hl : k < S.length
      · rw [List.getElem?_append_left hl] at ek
        rw [List.getElem?_append_left (by rw [R.len]; exact hl)] at hk
        obtain ⟨b, h1, h2, h3⟩ := R.obj k x ek
        rw [hk] at h1
        cases h1
        exact .inl ⟨hl, ek, hk, fun q => by subst q; exact h3.is hp⟩
      · have h2 := (List.getElem?_eq_some_iff.mp ek).1
        rw [List.length_append] at h2
        have h3 : k = S.length := by simp at h2; omega
        rw [List.getElem?_append_right (by rw [R.len]; omega), R.len, h3] at hk
        refine .inr ⟨h3, ?_⟩
        have hk2 : some p = some a := by simpa using hk
        exact (Option.some.inj hk2).symm
    rcases key ei hi with ⟨h1, h2, h3, h4⟩ | ⟨h1, h2⟩
    · rcases key ej hj with ⟨g1, g2, g3, g4⟩ | ⟨g1, g2⟩
      · exact R.inj i j a u w h2 g2 h3 g3
      · exact absurd g2 h4
    · rcases key ej hj with ⟨g1, g2, g3, g4⟩ | ⟨g1, g2⟩
      · exact absurd h2 g4
      · rw [h1, g1]
/-- a mutable object changes -/
theorem Rs.write (R : Rs K Γ S H) {i : Nat} {a : Addr} {d0 d : DO} (hi : S[i]? = some (some d0)) (ha : Γ.A[i]? = some a) (ho : RO K Γ d (some o)) : Rs K Γ (S.set i (some d)) (upd H a o) := by
  obtain ⟨a', h1, h2, h3⟩ := R.obj i d0 hi
  rw [ha] at h1
  cases h1
  have hil : i < S.length := (List.getElem?_eq_some_iff.mp hi).1
  have keyS : ∀ {m : Nat} {x : DO}, (S.set i (some d))[m]? = some (some x) → ∃ y, S[m]? = some (some y) := by
    intro m x em
    by_cases hm : m = i
    · subst hm
      exact ⟨d0, hi⟩
    · rw [List.getElem?_set_ne (Ne.symm hm)] at em
      exact ⟨x, em⟩
  refine ⟨fun b u e => ?_, ?_, fun j u e => ?_, fun b u e => ?_, R.fdis, fun j b u e hb => ?_, fun j k b u w ej ek hj hk => ?_, fun q hq => ?_⟩
  · have hne : b ≠ a := fun q => by
      subst q
      rw [h2] at e
      cases e
    rw [upd_ne hne]
    exact R.sub b u e
  · rw [List.length_set]
    exact R.len
  · by_cases hj : j = i
    · subst hj
      rw [List.getElem?_set_self hil] at e
      cases e
      refine ⟨a, ha, h2, ?_⟩
      rw [upd_same]
      exact ho
    · rw [List.getElem?_set_ne (Ne.symm hj)] at e
      obtain ⟨b, g1, g2, g3⟩ := R.obj j u e
      refine ⟨b, g1, g2, ?_⟩
      have hne : b ≠ a := fun q => by
        subst q
        exact hj (R.inj j i b u d0 e hi g1 ha)
      rw [upd_ne hne]
      exact g3
  · have hne : b ≠ a := fun q => by
      subst q
      rw [R.fapt i b d0 hi ha] at e
      cases e
    rw [upd_ne hne]
    exact R.fsub b u e
  · obtain ⟨y, ey⟩ := keyS e
    exact R.fapt j b y ey hb
  · obtain ⟨y, ey⟩ := keyS ej
    obtain ⟨z, ez⟩ := keyS ek
    exact R.inj j k b y z ey ez hj hk
  · obtain ⟨g1, g2, g3⟩ := R.tab q hq
    have hne : q.1 ≠ a := fun z => by
      rw [z] at g1
      exact h3.ntab g1
    refine ⟨?_, g2, g3⟩
    rw [upd_ne hne]
    exact g1
/-- a mutable object is given up: it never changes from here on -/
theorem Rs.freeze (R : Rs K Γ S H) {i : Nat} {a : Addr} {d0 : DO} {o : HO} (hi : S[i]? = some (some d0)) (ha : Γ.A[i]? = some a) (ho : H a = some o) : Rs K ⟨Γ.A, upd Γ.G a o, Γ.F, Γ.T⟩ (S.set i none) H ∧ Ext Γ ⟨Γ.A, upd Γ.G a o, Γ.F, Γ.T⟩ := by
  obtain ⟨a', h1, h2, h3⟩ := R.obj i d0 hi
  rw [ha] at h1
  cases h1
  have hil : i < S.length := (List.getElem?_eq_some_iff.mp hi).1
  have E : Ext Γ ⟨Γ.A, upd Γ.G a o, Γ.F, Γ.T⟩ := Ext.laid h2
  have keyN : ∀ {m : Nat} {x : DO}, (S.set i none)[m]? = some (some x) → S[m]? = some (some x) := by
    intro m x em
    by_cases hm : m = i
    · subst hm
      rw [List.getElem?_set_self hil] at em
      cases em
    · rw [List.getElem?_set_ne (Ne.symm hm)] at em
      exact em
  refine ⟨⟨fun b u e => ?_, ?_, fun j u e => ?_, R.fsub, fun b u e => ?_, fun j b u e hb => R.fapt j b u (keyN e) hb, fun j k b u w ej ek hj hk => R.inj j k b u w (keyN ej) (keyN ek) hj hk, fun q hq => ?_⟩, E⟩
  · have e' : upd Γ.G a o b = some u := e
    by_cases hb : b = a
    · subst hb
      rw [upd_same] at e'
      rw [ho]
      exact e'
    · rw [upd_ne hb] at e'
      exact R.sub b u e'
  · rw [List.length_set]
    exact R.len
  · have hj : j ≠ i := fun q => by
      subst q
      rw [List.getElem?_set_self hil] at e
      cases e
    rw [List.getElem?_set_ne (Ne.symm hj)] at e
    obtain ⟨b, g1, g2, g3⟩ := R.obj j u e
    have hne : b ≠ a := fun q => by
      subst q
      exact hj (R.inj j i b u d0 e hi g1 ha)
    refine ⟨b, g1, ?_, g3.mono E⟩
    show upd Γ.G a o b = none
    rw [upd_ne hne]
    exact g2
  · show upd Γ.G a o b = none
    have hne : b ≠ a := fun q => by
      subst q
      rw [R.fapt i b d0 hi ha] at e
      cases e
    rw [upd_ne hne]
    exact R.fdis b u e
  · obtain ⟨g1, g2, g3⟩ := R.tab q hq
    have hne : q.1 ≠ a := fun z => by
      rw [z] at g1
      exact h3.ntab g1
    refine ⟨g1.sub E.sub, ?_, g3⟩
    show upd Γ.G a o q.1 = none
    rw [upd_ne hne]
    exact g2
/-- an object kept apart: begun, changed, given to what never changes, given to the store -/
theorem Rs.hold (R : Rs K Γ S H) (hp : H p = none) (o : HO) : Rs K ⟨Γ.A, Γ.G, upd Γ.F p o, Γ.T⟩ S (upd H p o) where
  sub := fun a u e => by
    rw [upd_ne (ne_of_none (R.sub a u e) hp)]
    exact R.sub a u e
  len := R.len
  obj := fun i u e => by
    obtain ⟨a, h1, h2, h3⟩ := R.obj i u e
    have hne : a ≠ p := fun q => by
      subst q
      exact h3.is hp
    refine ⟨a, h1, h2, ?_⟩
    rw [upd_ne hne]
    exact h3
  fsub := fun a u e => by
    have e' : upd Γ.F p o a = some u := e
    by_cases h : a = p
    · subst h
      rw [upd_same] at e'
      rw [upd_same]
      exact e'
    · rw [upd_ne h] at e'
      rw [upd_ne h]
      exact R.fsub a u e'
  fdis := fun a u e => by
    have e' : upd Γ.F p o a = some u := e
    by_cases h : a = p
    · subst h
      exact R.noG hp
    · rw [upd_ne h] at e'
      exact R.fdis a u e'
  fapt := fun i a u e ha => by
    show upd Γ.F p o a = none
    obtain ⟨b, h1, h2, h3⟩ := R.obj i u e
    have hb : Γ.A[i]? = some a := ha
    rw [hb] at h1
    cases h1
    have hne : a ≠ p := fun q => by
      subst q
      exact h3.is hp
    rw [upd_ne hne]
    exact R.fapt i a u e ha
  tab := fun q hq => by
    obtain ⟨h1, h2, h3⟩ := R.tab q hq
    have hne := h1.ne hp
    refine ⟨?_, h2, ?_⟩
    · rw [upd_ne hne]
      exact h1
    · show upd Γ.F p o q.1 = none
      rw [upd_ne hne]
      exact h3
  inj := R.inj
theorem Rs.held (R : Rs K Γ S H) {o0 : HO} (hp : Γ.F p = some o0) (o : HO) : Rs K ⟨Γ.A, Γ.G, upd Γ.F p o, Γ.T⟩ S (upd H p o) where
  sub := fun a u e => by
    have hne : a ≠ p := fun q => by
      subst q
      rw [R.fdis a o0 hp] at e
      cases e
    rw [upd_ne hne]
    exact R.sub a u e
  len := R.len
  obj := fun i u e => by
    obtain ⟨a, h1, h2, h3⟩ := R.obj i u e
    have hne : a ≠ p := fun q => by
      subst q
      rw [R.fapt i a u e h1] at hp
      cases hp
    refine ⟨a, h1, h2, ?_⟩
    rw [upd_ne hne]
    exact h3
  fsub := fun a u e => by
    have e' : upd Γ.F p o a = some u := e
    by_cases h : a = p
    · subst h
      rw [upd_same] at e'
      rw [upd_same]
      exact e'
    · rw [upd_ne h] at e'
      rw [upd_ne h]
      exact R.fsub a u e'
  fdis := fun a u e => by
    have e' : upd Γ.F p o a = some u := e
    by_cases h : a = p
    · subst h
      exact R.fdis a o0 hp
    · rw [upd_ne h] at e'
      exact R.fdis a u e'
  fapt := fun i a u e ha => by
    show upd Γ.F p o a = none
    have hne : a ≠ p := fun q => by
      subst q
      rw [R.fapt i a u e ha] at hp
      cases hp
    rw [upd_ne hne]
    exact R.fapt i a u e ha
  tab := fun q hq => by
    obtain ⟨h1, h2, h3⟩ := R.tab q hq
    have hne : q.1 ≠ p := fun z => by
      rw [z, hp] at h3
      cases h3
    refine ⟨?_, h2, ?_⟩
    · rw [upd_ne hne]
      exact h1
    · show upd Γ.F p o q.1 = none
      rw [upd_ne hne]
      exact h3
  inj := R.inj
theorem Rs.give {F0 : Hp} (R : Rs K Γ S H) {o : HO} (hF : Γ.F = upd F0 p o) (h0 : F0 p = none) : Rs K ⟨Γ.A, upd Γ.G p o, F0, Γ.T⟩ S H := by
  have hp : Γ.F p = some o := by rw [hF]; exact upd_same
  have hG := R.fdis p o hp
  have E : Ext Γ ⟨Γ.A, upd Γ.G p o, Γ.F, Γ.T⟩ := Ext.laid hG
  refine ⟨fun a u e => ?_, R.len, fun i u e => ?_, fun a u e => ?_, fun a u e => ?_, fun i a u e ha => ?_, R.inj, fun q hq => ?_⟩
  · have e' : upd Γ.G p o a = some u := e
    by_cases h : a = p
    · subst h
      rw [upd_same] at e'
      rw [R.fsub a o hp]
      exact e'
    · rw [upd_ne h] at e'
      exact R.sub a u e'
  · obtain ⟨a, h1, h2, h3⟩ := R.obj i u e
    have hne : a ≠ p := fun q => by
      subst q
      rw [R.fapt i a u e h1] at hp
      cases hp
    refine ⟨a, h1, ?_, h3.mono E⟩
    show upd Γ.G p o a = none
    rw [upd_ne hne]
    exact h2
  · have e' : F0 a = some u := e
    have hne : a ≠ p := fun q => by
      subst q
      rw [h0] at e'
      cases e'
    refine R.fsub a u ?_
    rw [hF, upd_ne hne]
    exact e'
  · have e' : F0 a = some u := e
    have hne : a ≠ p := fun q => by
      subst q
      rw [h0] at e'
      cases e'
    show upd Γ.G p o a = none
    rw [upd_ne hne]
    refine R.fdis a u ?_
    rw [hF, upd_ne hne]
    exact e'
  · have h := R.fapt i a u e ha
    rw [hF] at h
    have hne : a ≠ p := fun q => by
      subst q
      rw [upd_same] at h
      cases h
    rw [upd_ne hne] at h
    exact h
  · obtain ⟨g1, g2, g3⟩ := R.tab q hq
    have hne : q.1 ≠ p := fun z => by
      rw [z, hp] at g3
      cases g3
    refine ⟨g1.sub E.sub, ?_, ?_⟩
    · show upd Γ.G p o q.1 = none
      rw [upd_ne hne]
      exact g2
    · rw [hF, upd_ne hne] at g3
      exact g3
theorem Rs.givePush {F0 : Hp} (R : Rs K Γ S H) {o : HO} (hF : Γ.F = upd F0 p o) (h0 : F0 p = none) {d : DO} (ho : RO K Γ d (some o)) : Rs K ⟨Γ.A ++ [p], Γ.G, F0, Γ.T⟩ (S ++ [some d]) H := by
  have hp : Γ.F p = some o := by rw [hF]; exact upd_same
  have E : Ext Γ ⟨Γ.A ++ [p], Γ.G, Γ.F, Γ.T⟩ := Ext.push p
  have key : ∀ {k : Nat} {x : DO} {a : Addr}, (S ++ [some d])[k]? = some (some x) → (Γ.A ++ [p])[k]? = some a → (k < S.length ∧ S[k]? = some (some x) ∧ Γ.A[k]? = some a ∧ a ≠ p) ∨ (k = S.length ∧ a = p) := by
    intro k x a ek hk
    by_cases hl : k < S.length
    · rw [List.getElem?_append_left hl] at ek
      rw [List.getElem?_append_left (by rw [R.len]; exact hl)] at hk
      exact .inl ⟨hl, ek, hk, fun q => by
        subst q
        rw [R.fapt k a x ek hk] at hp
        cases hp⟩
    · have h2 := (List.getElem?_eq_some_iff.mp ek).1
      rw [List.length_append] at h2
      have h3 : k = S.length := by simp at h2; omega
      rw [List.getElem?_append_right (by rw [R.len]; omega), R.len, h3] at hk
      refine .inr ⟨h3, ?_⟩
      have hk2 : some p = some a := by simpa using hk
      exact (Option.some.inj hk2).symm
  have nF : ∀ {a : Addr}, a ≠ p → F0 a = Γ.F a := fun {a} hne => by rw [hF, upd_ne hne]
  refine ⟨R.sub, ?_, fun i u e => ?_, fun a u e => ?_, fun a u e => ?_, fun i a u e ha => ?_, fun i j a u w ei ej hi hj => ?_, fun q hq => ?_⟩
  · show (Γ.A ++ [p]).length = (S ++ [some d]).length
    rw [List.length_append, List.length_append, R.len]
    rfl
  · by_cases hl : i < S.length
    · rw [List.getElem?_append_left hl] at e
      obtain ⟨a, h1, h2, h3⟩ := R.obj i u e
      exact ⟨a, E.at h1, h2, h3.mono E⟩
    · have h2 := (List.getElem?_eq_some_iff.mp e).1
      rw [List.length_append] at h2
      have h3 : i = S.length := by simp at h2; omega
      subst h3
      have e2 : d = u := by simpa using e
      subst e2
      refine ⟨p, ?_, R.fdis p o hp, ?_⟩
      · show (Γ.A ++ [p])[S.length]? = some p
        rw [List.getElem?_append_right (by rw [R.len]; omega), R.len]
        simp
      · rw [R.fsub p o hp]
        exact ho.mono E
  · have e' : F0 a = some u := e
    have hne : a ≠ p := fun q => by
      subst q
      rw [h0] at e'
      cases e'
    exact R.fsub a u (by rw [← nF hne]; exact e')
  · have e' : F0 a = some u := e
    have hne : a ≠ p := fun q => by
      subst q
      rw [h0] at e'
      cases e'
    exact R.fdis a u (by rw [← nF hne]; exact e')
  · show F0 a = none
    rcases key e ha with ⟨h1, h2, h3, h4⟩ | ⟨h1, h2⟩
    · rw [nF h4]
      exact R.fapt i a u h2 h3
    · rw [h2]
      exact h0
  · rcases key ei hi with ⟨h1, h2, h3, h4⟩ | ⟨h1, h2⟩
    · rcases key ej hj with ⟨g1, g2, g3, g4⟩ | ⟨g1, g2⟩
      · exact R.inj i j a u w h2 g2 h3 g3
      · exact absurd g2 h4
    · rcases key ej hj with ⟨g1, g2, g3, g4⟩ | ⟨g1, g2⟩
      · exact absurd h2 g4
      · rw [h1, g1]
  · obtain ⟨g1, g2, g3⟩ := R.tab q hq
    have hne : q.1 ≠ p := fun z => by
      rw [z, hp] at g3
      cases g3
    refine ⟨g1, g2, ?_⟩
    rw [hF, upd_ne hne] at g3
    exact g3
theorem Cf.mk' (R : Rs K Γ' S' H') (c : Cf K Γ S H δ σ) (e : Ext Γ Γ') : Cf K Γ' S' H' δ σ :=
  ⟨R, c.len, fun i d h => by
    obtain ⟨v, h1, h2⟩ := c.ls i d h
    exact ⟨v, h1, RV.mono e d v h2⟩⟩
theorem Cf.set (c : Cf K Γ S H δ σ) {i : Nat} {d : DV} {v : V} (r : RV K Γ d v) : Cf K Γ S H (δ.set i (some d)) (σ.set i (some v)) :=
  ⟨c.rs, by rw [List.length_set, List.length_set]; exact c.len, fun j x h => by
    by_cases hj : j = i
    · subst hj
      have hl : j < δ.length := by
        have := (List.getElem?_eq_some_iff.mp h).1
        rw [List.length_set] at this
        exact this
      rw [List.getElem?_set_self hl] at h
      cases h
      exact ⟨v, by rw [List.getElem?_set_self (by rw [← c.len]; exact hl)], r⟩
    · rw [List.getElem?_set_ne (Ne.symm hj)] at h
      obtain ⟨u, h1, h2⟩ := c.ls j x h
      exact ⟨u, by rw [List.getElem?_set_ne (Ne.symm hj)]; exact h1, h2⟩⟩
end

/-! ### what is wanted behind -/
abbrev MK (α : Type) := (α → Store → Prop)
abbrev MX := Exn → Store → Prop
abbrev ME := DEnv → Store → MK DV → MX → Prop
abbrev MT := DEnv → Store → MK Bool → MX → Prop
abbrev MA := DEnv → Store → MK (List DV) → MX → Prop
structure EndsD where
  nx : DEnv → Store → Prop
  rt : DV → Store → Prop
  bk : DEnv → Store → Prop
  ct : DEnv → Store → Prop
  ex : Exn → DEnv → Store → Prop
abbrev MS := EndsD → DEnv → Store → Prop
/-- behind a value of some kind -/
def KQ {α β : Type} (rel : AG → α → β → Prop) (K : PySem.W.Frag) (Γ : AG) (Qd : MK α) (Q : β → Hp → Prop) : Prop :=
  ∀ Γ' S' H' d v, Ext Γ Γ' → Rs K Γ' S' H' → rel Γ' d v → Qd d S' → Q v H'
def KE (K : PySem.W.Frag) (W : WX) (Γ : AG) (σ : L2.St) (Ed : MX) : Prop :=
  ∀ Γ' S' H' x c dd, Ext Γ Γ' → Rs K Γ' S' H' → RX K Γ' x c dd → Ed x S' → W c dd σ H'
/-- the reading that belongs to what is told over data -/
def tG {α β : Type} (rel : AG → α → β → Prop) (K : PySem.W.Frag) (W : WX) (m : DEnv → Store → MK α → MX → Prop) : L2.St → Hp → (β → Hp → Prop) → Prop := fun σ H Q =>
  ∃ Γ S δ Qd Ed, Cf K Γ S H δ σ ∧ m δ S Qd Ed ∧ KQ rel K Γ Qd Q ∧ KE K W Γ σ Ed
abbrev relB : AG → Bool → Bool → Prop := fun _ a b => a = b
structure ER (K : PySem.W.Frag) (W : WX) (Γ : AG) (Dd : EndsD) (D : Ends) : Prop where
  nx : ∀ Γ' S' H' δ' σ', Ext Γ Γ' → Cf K Γ' S' H' δ' σ' → Dd.nx δ' S' → D.nx σ' H'
  rt : ∀ Γ' S' H' d v, Ext Γ Γ' → Rs K Γ' S' H' → RV K Γ' d v → Dd.rt d S' → D.rt v H'
  bk : ∀ Γ' S' H' δ' σ', Ext Γ Γ' → Cf K Γ' S' H' δ' σ' → Dd.bk δ' S' → D.bk σ' H'
  ct : ∀ Γ' S' H' δ' σ', Ext Γ Γ' → Cf K Γ' S' H' δ' σ' → Dd.ct δ' S' → D.ct σ' H'
  ex : ∀ Γ' S' H' δ' σ' x c dd, Ext Γ Γ' → Cf K Γ' S' H' δ' σ' → RX K Γ' x c dd → Dd.ex x δ' S' → W c dd σ' H'
def tSD (K : PySem.W.Frag) (W : WX) (m : MS) : TS := fun D σ H => ∃ Γ S δ Dd, Cf K Γ S H δ σ ∧ m Dd δ S ∧ ER K W Γ Dd D

def DE (X : Cx) (W : WX) (e : Expr) (m : ME) : Prop := PE X e (tG (RV X.K) X.K W m)
def DT (X : Cx) (W : WX) (e : Expr) (m : MT) : Prop := PT X e (tG relB X.K W m)
def DW (X : Cx) (W : WX) (e : Expr) (m : MT) : Prop := PW X e (tG relB X.K W m)
def DA (X : Cx) (W : WX) (es : List Expr) (m : MA) : Prop := PA X es (tG (RVs X.K) X.K W m)
def DS (X : Cx) (W : WX) (st : Stmt) (m : MS) : Prop := PS X st (tSD X.K W m)
def DB (X : Cx) (W : WX) (sts : List Stmt) (m : MS) : Prop := PSs X sts (tSD X.K W m)

theorem KQ.mono {α β : Type} {rel : AG → α → β → Prop} {K : PySem.W.Frag} {Γ Γ' : AG} {Qd : MK α} {Q : β → Hp → Prop} (h : KQ rel K Γ Qd Q) (e : Ext Γ Γ') : KQ rel K Γ' Qd Q :=
  fun Γ2 S' H' d v e2 => h Γ2 S' H' d v (e.trans e2)
theorem KE.mono {K : PySem.W.Frag} {W : WX} {Γ Γ' : AG} {σ : L2.St} {Ed : MX} (h : KE K W Γ σ Ed) (e : Ext Γ Γ') : KE K W Γ' σ Ed :=
  fun Γ2 S' H' x c dd e2 => h Γ2 S' H' x c dd (e.trans e2)
theorem ER.mono {K : PySem.W.Frag} {W : WX} {Γ Γ' : AG} {Dd : EndsD} {D : Ends} (h : ER K W Γ Dd D) (e : Ext Γ Γ') : ER K W Γ' Dd D :=
  ⟨fun Γ2 S' H' δ' σ' e2 => h.nx Γ2 S' H' δ' σ' (e.trans e2), fun Γ2 S' H' d v e2 => h.rt Γ2 S' H' d v (e.trans e2), fun Γ2 S' H' δ' σ' e2 => h.bk Γ2 S' H' δ' σ' (e.trans e2),
    fun Γ2 S' H' δ' σ' e2 => h.ct Γ2 S' H' δ' σ' (e.trans e2), fun Γ2 S' H' δ' σ' x c dd e2 => h.ex Γ2 S' H' δ' σ' x c dd (e.trans e2)⟩
/-- the exceptions of a statement's expression -/
theorem ER.ke {K : PySem.W.Frag} {W : WX} {Γ : AG} {Dd : EndsD} {D : Ends} {S : Store} {H : Hp} {δ : DEnv} {σ : L2.St} (h : ER K W Γ Dd D) (c : Cf K Γ S H δ σ) : KE K W Γ σ (fun x S' => Dd.ex x δ S') :=
  fun Γ2 S' H' x cl dd e2 R rx q => h.ex Γ2 S' H' δ σ x cl dd e2 (c.mk' R e2) rx q
theorem PE.imp {X : Cx} {e : Expr} {t t' : TE} (h : PE X e t) (i : ∀ σ H Q, t' σ H Q → t σ H Q) : PE X e t' := ⟨fun pins s σ H Q I q => h.run pins s σ H Q I (i σ H Q q)⟩
theorem PT.imp {X : Cx} {e : Expr} {t t' : TT} (h : PT X e t) (i : ∀ σ H Q, t' σ H Q → t σ H Q) : PT X e t' := ⟨fun pins s σ H Q I q => h.run pins s σ H Q I (i σ H Q q)⟩
theorem PW.imp {X : Cx} {e : Expr} {t t' : TT} (h : PW X e t) (i : ∀ σ H Q, t' σ H Q → t σ H Q) : PW X e t' := ⟨fun wh pins s σ H Q I q => h.run wh pins s σ H Q I (i σ H Q q)⟩
theorem PA.imp {X : Cx} {es : List Expr} {t t' : TA} (h : PA X es t) (i : ∀ σ H Q, t' σ H Q → t σ H Q) : PA X es t' := ⟨fun pos pins s σ H Q I q => h.run pos pins s σ H Q I (i σ H Q q)⟩
theorem PS.imp {X : Cx} {st : Stmt} {t t' : TS} (h : PS X st t) (i : ∀ D σ H, t' D σ H → t D σ H) : PS X st t' := ⟨fun pins s σ H D I q => h.run pins s σ H D I (i D σ H q)⟩
theorem PSs.imp {X : Cx} {st : List Stmt} {t t' : TS} (h : PSs X st t) (i : ∀ D σ H, t' D σ H → t D σ H) : PSs X st t' := ⟨fun pins s σ H D I q => h.run pins s σ H D I (i D σ H q)⟩
end DL
/-! D layer, part 2: expressions and statements over data. -/
namespace DL
open PySem PySem.Spec PyProof.Rows L2

def slot : DEnv → Nat → Option DV
  | [], _ => none
  | x :: _, 0 => x
  | _ :: r, n + 1 => slot r n
theorem slot_get : ∀ {δ : DEnv} {i : Nat} {d : DV}, slot δ i = some d → δ[i]? = some (some d)
  | [], _, _, h => by cases h
  | x :: _, 0, d, h => by
    have e : x = some d := h
    rw [e]
    rfl
  | _ :: r, n + 1, d, h => by
    have := slot_get (δ := r) (i := n) (d := d) h
    simpa using this
/-! ### the combinators -/
abbrev G1 := DV → Store → MK DV → Prop
abbrev G2 := DV → DV → Store → MK DV → Prop
abbrev GN := List DV → Store → MK DV → Prop
def mVar (i : Nat) : ME := fun δ S Q _ => match slot δ i with
  | some d => Q d S
  | none => False
def mC (d : DV) : ME := fun _ S Q _ => Q d S
def mOp (g : G2) (a b : ME) : ME := fun δ S Q E => a δ S (fun x S1 => b δ S1 (fun y S2 => g x y S2 Q) E) E
def mUn (g : G1) (a : ME) : ME := fun δ S Q E => a δ S (fun x S1 => g x S1 Q) E
def mChain (g g' : G2) (a b c : ME) : ME := fun δ S Q E => a δ S (fun x S1 => b δ S1 (fun y S2 => g x y S2 (fun z S3 => match z with
  | .bl true => c δ S3 (fun w S4 => g' y w S4 Q) E
  | .bl false => Q (.bl false) S3
  | _ => False)) E) E
def mT (a : ME) : MT := fun δ S Q E => a δ S (fun x S1 => match x with
  | .bl b => Q b S1
  | _ => False) E
def mAnd (a b : MT) : MT := fun δ S Q E => a δ S (fun c S1 => match c with
  | true => b δ S1 Q E
  | false => Q false S1) E
def mOr (a b : MT) : MT := fun δ S Q E => a δ S (fun c S1 => match c with
  | true => Q true S1
  | false => b δ S1 Q E) E
def mNot (a : MT) : MT := fun δ S Q E => a δ S (fun c S1 => Q (!c) S1) E
def mAndV (a b : ME) : ME := fun δ S Q E => a δ S (fun x S1 => match x with
  | .bl true => b δ S1 Q E
  | .bl false => Q (.bl false) S1
  | _ => False) E
def mOrV (a b : ME) : ME := fun δ S Q E => a δ S (fun x S1 => match x with
  | .bl true => Q (.bl true) S1
  | .bl false => b δ S1 Q E
  | _ => False) E
def mNotV (a : ME) : ME := fun δ S Q E => a δ S (fun x S1 => match x with
  | .bl c => Q (.bl (!c)) S1
  | _ => False) E
def mIf (t : MT) (a b : ME) : ME := fun δ S Q E => t δ S (fun c S1 => match c with
  | true => a δ S1 Q E
  | false => b δ S1 Q E) E
def mNil : MA := fun _ S Q _ => Q [] S
def mCons (a : ME) (r : MA) : MA := fun δ S Q E => a δ S (fun x S1 => r δ S1 (fun xs S2 => Q (x :: xs) S2) E) E
def mTup (as : MA) : ME := fun δ S Q E => as δ S (fun ds S1 => ds.length ≤ 16777216 ∧ Q (.tup ds) S1) E
/-- a list that is never changed -/
def mLst (as : MA) : ME := fun δ S Q E => as δ S (fun ds S1 => ds.length ≤ 16777216 ∧ Q (.lst ds) S1) E
/-- a list that may be changed -/
def mLstO (as : MA) : ME := fun δ S Q E => as δ S (fun ds S1 => ds.length ≤ 16777216 ∧ Q (.ref S1.length) (S1 ++ [some (.lst ds)])) E
/-- {} that is never changed -/
def mDct : ME := fun _ S Q _ => Q .dct S
def mCall (g : GN) (as : MA) : ME := fun δ S Q E => as δ S (fun ds S1 => g ds S1 Q) E

/-! ### by values: what a rule over data is -/
def tO2 (K : PySem.W.Frag) (g : G2) : R2 := fun x y H Q => ∃ Γ S dx dy Qd, Rs K Γ S H ∧ RV K Γ dx x ∧ RV K Γ dy y ∧ g dx dy S Qd ∧ KQ (RV K) K Γ Qd Q
def tO1 (K : PySem.W.Frag) (g : G1) : V → Hp → VK → Prop := fun x H Q => ∃ Γ S dx Qd, Rs K Γ S H ∧ RV K Γ dx x ∧ g dx S Qd ∧ KQ (RV K) K Γ Qd Q
def tON (K : PySem.W.Frag) (g : GN) : List V → Hp → VK → Prop := fun xs H Q => ∃ Γ S ds Qd, Rs K Γ S H ∧ RVs K Γ ds xs ∧ g ds S Qd ∧ KQ (RV K) K Γ Qd Q
def OpD (X : Cx) (f : Value → Value → Sem Value) (g : G2) : Prop := OpR X f (tO2 X.K g)
def UnD (X : Cx) (f : Value → Sem Value) (g : G1) : Prop := UnR X f (tO1 X.K g)
def CallD (X : Cx) (f : Value) (g : GN) : Prop := CallR X f (tON X.K g)
theorem opD_of {X : Cx} {f : Value → Value → Sem Value} {g : G2} {r : R2} (ho : OpR X f r)
    (i : ∀ Γ S H dx dy x y Qd Q, Rs X.K Γ S H → RV X.K Γ dx x → RV X.K Γ dy y → g dx dy S Qd → KQ (RV X.K) X.K Γ Qd Q → r x y H Q) : OpD X f g := by
  intro pins s σ H x y v u Q I rx ry h
  obtain ⟨Γ, S, dx, dy, Qd, R, r1, r2, hg, kq⟩ := h
  exact ho pins s σ H x y v u Q I rx ry (i Γ S H dx dy x y Qd Q R r1 r2 hg kq)
theorem callD_of {X : Cx} {f : Value} {g : GN} {r : List V → Hp → VK → Prop} (ho : CallR X f r)
    (i : ∀ Γ S H ds xs Qd Q, Rs X.K Γ S H → RVs X.K Γ ds xs → g ds S Qd → KQ (RV X.K) X.K Γ Qd Q → r xs H Q) : CallD X f g := by
  intro pins s σ H xs us Q I rx h
  obtain ⟨Γ, S, ds, Qd, R, r1, hg, kq⟩ := h
  exact ho pins s σ H xs us Q I rx (i Γ S H ds xs Qd Q R r1 hg kq)
section
variable {K : PySem.W.Frag} {Γ : AG} {S : Store} {H : Hp} {Qd : MK DV} {Q : VK}
/-- back with a value that names no new object -/
theorem KQ.here (kq : KQ (RV K) K Γ Qd Q) (R : Rs K Γ S H) {d : DV} {v : V} (r : RV K Γ d v) (q : Qd d S) : Q v H := kq Γ S H d v (Ext.refl Γ) R r q
/-- back with a new object that never changes -/
theorem KQ.new (kq : KQ (RV K) K Γ Qd Q) (R : Rs K Γ S H) {p : Addr} (hp : H p = none) {o : HO} {d : DV} (r : RV K ⟨Γ.A, upd Γ.G p o, Γ.F, Γ.T⟩ d (.ref p)) (q : Qd d S) : Q (.ref p) (upd H p o) :=
  kq _ S _ d _ (R.ext hp o) (R.laid hp o) r q
theorem KQ.newT (kq : KQ (RV K) K Γ Qd Q) (R : Rs K Γ S H) {p : Addr} (hp : H p = none) {ds : List DV} {vs : List V} (r : RVs K Γ ds vs) (q : Qd (.tup ds) S) : Q (.ref p) (upd H p (.tup vs)) :=
  kq.new (d := .tup ds) R hp ⟨p, vs, rfl, .inl (.inl upd_same), RVs.mono (R.ext hp _) _ _ r⟩ q
theorem KQ.newL (kq : KQ (RV K) K Γ Qd Q) (R : Rs K Γ S H) {p : Addr} (hp : H p = none) {ds : List DV} {vs : List V} (r : RVs K Γ ds vs) (q : Qd (.lst ds) S) : Q (.ref p) (upd H p (.lst vs)) :=
  kq.new (d := .lst ds) R hp ⟨p, vs, rfl, upd_same, RVs.mono (R.ext hp _) _ _ r⟩ q
/-- back with a new mutable object -/
theorem KQ.push (kq : KQ (RV K) K Γ Qd Q) (R : Rs K Γ S H) {p : Addr} (hp : H p = none) {o : HO} {d : DO} (ho : RO K Γ d (some o)) (q : Qd (.ref S.length) (S ++ [some d])) : Q (.ref p) (upd H p o) := by
  refine kq _ _ _ (.ref S.length) _ (Ext.push p) (R.push hp ho) ⟨p, ?_, rfl⟩ q
  show (Γ.A ++ [p])[S.length]? = some p
  rw [← R.len]
  simp
theorem Rs.tup (R : Rs K Γ S H) {ds : List DV} {v : V} (r : RV K Γ (.tup ds) v) : ∃ p vs, v = .ref p ∧ SqT K H p vs ∧ RVs K Γ ds vs := by
  obtain ⟨p, vs, h1, h2, h3⟩ := r
  exact ⟨p, vs, h1, sqT_sub R.sub h2, h3⟩
theorem Rs.lst (R : Rs K Γ S H) {ds : List DV} {v : V} (r : RV K Γ (.lst ds) v) : ∃ p vs, v = .ref p ∧ H p = some (.lst vs) ∧ RVs K Γ ds vs := by
  obtain ⟨p, vs, h1, h2, h3⟩ := r
  exact ⟨p, vs, h1, R.sub _ _ h2, h3⟩
theorem Rs.frz (R : Rs K Γ S H) {ds : List DV} {v : V} (r : RV K Γ (.frz ds) v) : ∃ p vs, v = .ref p ∧ SqL K H p vs ∧ RVs K Γ ds vs := by
  obtain ⟨p, vs, h1, h2, h3⟩ := r
  exact ⟨p, vs, h1, sqL_sub R.sub h2, h3⟩
theorem Rs.ref (R : Rs K Γ S H) {i : Nat} {v : V} {d : DO} (r : RV K Γ (.ref i) v) (e : S[i]? = some (some d)) : ∃ a, v = .ref a ∧ Γ.A[i]? = some a ∧ RO K Γ d (H a) := by
  obtain ⟨a, h1, h2⟩ := r
  obtain ⟨b, g1, g2, g3⟩ := R.obj i d e
  rw [h1] at g1
  cases g1
  exact ⟨a, h2, h1, g3⟩
end

section
variable {X : Cx} {W : WX} {a b c e : Expr} {es : List Expr} {ma mb mc : ME} {mt mu : MT} {mas : MA} {pos : Pos}
/-! ### names, constants -/
theorem d_var {i : Nat} {x : Str} {pos : Pos} (hN : X.N[i]? = some x := by rfl) (hv : Vis X.env.scope x := by first | exact Or.inl rfl | exact Or.inr (Or.inl rfl) | exact Or.inr (Or.inr rfl)) (hd : (x == ("__debug__" : Str)) = false := by decide)
    (hcd : (x == ("__classdict__" : Str)) = false := by decide) : DE X W (.Name x pos) (mVar i) :=
  PE.imp (pe_var hN hv hd hcd) fun σ H Q ⟨Γ, S, δ, Qd, Ed, c, m, kq, ke⟩ => by
    have m' : (match slot δ i with
      | some d => Qd d S
      | none => False) := m
    cases hs : slot δ i with
    | none =>
      rw [hs] at m'
      exact m'.elim
    | some d =>
      rw [hs] at m'
      obtain ⟨v, h1, h2⟩ := c.ls i d (slot_get hs)
      exact ⟨v, h1, kq.here c.rs h2 m'⟩
theorem d_const {d : DV} {v : V} (h : PE X e (tC v)) (r : ∀ Γ, RV X.K Γ d v) : DE X W e (mC d) :=
  PE.imp h fun σ H Q ⟨Γ, S, δ, Qd, Ed, c, m, kq, ke⟩ => kq.here c.rs (r Γ) m
theorem d_int {i : Int} {j} {pos : Pos} : DE X W (.Constant (.int i) j pos) (mC (.int i)) := d_const pe_int fun _ => rfl
theorem d_bl {i : Bool} {j} {pos : Pos} : DE X W (.Constant (.bool i) j pos) (mC (.bl i)) := d_const pe_bl fun _ => rfl
theorem d_non {j} {pos : Pos} : DE X W (.Constant .none j pos) (mC .non) := d_const pe_non fun _ => rfl
theorem d_str {x : Str} {j} {pos : Pos} : DE X W (.Constant (.str x) j pos) (mC (.str x)) := d_const pe_str fun _ => rfl
/-! ### operations -/
theorem d_op {op : Operator} {g : G2} (ho : OpD X (binaryOp op) g) (ha : DE X W a ma) (hb : DE X W b mb) : DE X W (.BinOp a op b pos) (mOp g ma mb) :=
  PE.imp (pe_op ho ha hb) fun σ H Q ⟨Γ, S, δ, Qd, Ed, c, m, kq, ke⟩ =>
    ⟨Γ, S, δ, _, Ed, c, m, fun Γ1 S1 H1 d1 v1 e1 R1 r1 q1 => ⟨Γ1, S1, δ, _, Ed, c.mk' R1 e1, q1, fun Γ2 S2 H2 d2 v2 e2 R2 r2 q2 =>
      ⟨Γ2, S2, d1, d2, Qd, R2, RV.mono e2 _ _ r1, r2, q2, kq.mono (e1.trans e2)⟩, ke.mono e1⟩, ke⟩
theorem d_cmp {op : CmpOp} {g : G2} (ho : OpD X (compareOp op) g) (ha : DE X W a ma) (hb : DE X W b mb) (hm : behindInMarks op b = false) : DE X W (.Compare a [op] [b] pos) (mOp g ma mb) :=
  PE.imp (pe_cmpR ho ha hb hm) fun σ H Q ⟨Γ, S, δ, Qd, Ed, c, m, kq, ke⟩ =>
    ⟨Γ, S, δ, _, Ed, c, m, fun Γ1 S1 H1 d1 v1 e1 R1 r1 q1 => ⟨Γ1, S1, δ, _, Ed, c.mk' R1 e1, q1, fun Γ2 S2 H2 d2 v2 e2 R2 r2 q2 =>
      ⟨Γ2, S2, d1, d2, Qd, R2, RV.mono e2 _ _ r1, r2, q2, kq.mono (e1.trans e2)⟩, ke.mono e1⟩, ke⟩
theorem d_un {op : UnaryOp} {g : G1} (ho : UnD X (unaryOp op) g) (ha : DE X W a ma) : DE X W (.UnaryOp op a pos) (mUn g ma) :=
  PE.imp (pe_un ho ha) fun σ H Q ⟨Γ, S, δ, Qd, Ed, c, m, kq, ke⟩ =>
    ⟨Γ, S, δ, _, Ed, c, m, fun Γ1 S1 H1 d1 v1 e1 R1 r1 q1 => ⟨Γ1, S1, d1, Qd, R1, r1, q1, kq.mono e1⟩, ke⟩
theorem bl_of {K : PySem.W.Frag} {Γ : AG} {d : DV} {b : Bool} (r : RV K Γ d (.bl b)) : d = .bl b := by
  cases d with
  | bl c =>
    have e : V.bl b = V.bl c := r
    cases e
    rfl
  | non => cases (show V.bl b = V.non from r)
  | int i => cases (show V.bl b = V.int i from r)
  | str x => cases (show V.bl b = V.str x from r)
  | ty n => cases (show V.bl b = V.ty n from r)
  | adr q => cases (show V.bl b = V.ref q from r)
  | ref i =>
    obtain ⟨_, _, e⟩ := r
    cases e
  | dct =>
    obtain ⟨_, e, _⟩ := r
    cases e
  | dcx =>
    obtain ⟨_, _, e, _⟩ := r
    cases e
  | tup ds =>
    obtain ⟨_, _, e, _⟩ := r
    cases e
  | lst ds =>
    obtain ⟨_, _, e, _⟩ := r
    cases e
  | frz ds =>
    obtain ⟨_, _, e, _⟩ := r
    cases e
  | ins C f y =>
    obtain ⟨_, _, _, e, _⟩ := r
    cases e
theorem d_chain {op op' : CmpOp} {g g' : G2} (ho : OpD X (compareOp op) g) (ho' : OpD X (compareOp op') g') (ha : DE X W a ma) (hb : DE X W b mb) (hc : DE X W c mc)
    (h : ∀ {r r' : R2} {ta tb tc : TE}, OpR X (compareOp op) r → OpR X (compareOp op') r' → PE X a ta → PE X b tb → PE X c tc → PE X (.Compare a [op, op'] [b, c] pos) (tChain r r' ta tb tc)) :
    DE X W (.Compare a [op, op'] [b, c] pos) (mChain g g' ma mb mc) :=
  PE.imp (h ho ho' ha hb hc) fun σ H Q ⟨Γ, S, δ, Qd, Ed, c, m, kq, ke⟩ =>
    ⟨Γ, S, δ, _, Ed, c, m, fun Γ1 S1 H1 d1 v1 e1 R1 r1 q1 => ⟨Γ1, S1, δ, _, Ed, c.mk' R1 e1, q1, fun Γ2 S2 H2 d2 v2 e2 R2 r2 q2 =>
      ⟨Γ2, S2, d1, d2, _, R2, RV.mono e2 _ _ r1, r2, q2, fun Γ3 S3 H3 d3 v3 e3 R3 r3 q3 => by
        cases d3 with
        | bl k =>
          cases (show v3 = .bl k from r3)
          cases k with
          | true =>
            refine ⟨true, rfl, ?_⟩
            rw [if_pos rfl]
            exact ⟨Γ3, S3, δ, _, Ed, c.mk' R3 ((e1.trans e2).trans e3), q3, fun Γ4 S4 H4 d4 v4 e4 R4 r4 q4 => ⟨Γ4, S4, d2, d4, Qd, R4, RV.mono (e3.trans e4) _ _ r2, r4, q4, kq.mono (((e1.trans e2).trans e3).trans e4)⟩, ke.mono ((e1.trans e2).trans e3)⟩
          | false =>
            refine ⟨false, rfl, ?_⟩
            rw [if_neg Bool.false_ne_true]
            exact (kq.mono ((e1.trans e2).trans e3)).here (d := .bl false) R3 rfl q3
        | _ => exact False.elim q3⟩, ke.mono e1⟩, ke⟩
/-! ### tests -/
theorem d_test (ha : DE X W a ma) (he : ∀ whole, isTrue a X.env whole = (do let v ← whole; standAt a.pos; holding [v] (truthy v)) := by intro _; rfl) : DT X W a (mT ma) :=
  PT.imp (pt_val ha he) fun σ H Q ⟨Γ, S, δ, Qd, Ed, c, m, kq, ke⟩ => ⟨Γ, S, δ, _, Ed, c, m, fun Γ1 S1 H1 d1 v1 e1 R1 r1 q1 => by
    cases d1 with
    | bl k =>
      cases (show v1 = .bl k from r1)
      exact ⟨k, rfl, kq Γ1 S1 H1 k k e1 R1 rfl q1⟩
    | _ => exact False.elim q1, ke⟩
theorem d_testC {op : CmpOp} {g : G2} (ho : OpD X (compareOp op) g) (ha : DE X W a ma) (hb : DE X W b mb) (hm : behindInMarks op b = false) : DT X W (.Compare a [op] [b] pos) (mT (mOp g ma mb)) :=
  PT.imp (pt_cmpR ho ha hb hm) fun σ H Q ⟨Γ, S, δ, Qd, Ed, c, m, kq, ke⟩ =>
    ⟨Γ, S, δ, _, Ed, c, m, fun Γ1 S1 H1 d1 v1 e1 R1 r1 q1 => ⟨Γ1, S1, δ, _, Ed, c.mk' R1 e1, q1, fun Γ2 S2 H2 d2 v2 e2 R2 r2 q2 =>
      ⟨Γ2, S2, d1, d2, _, R2, RV.mono e2 _ _ r1, r2, q2, fun Γ3 S3 H3 d3 v3 e3 R3 r3 q3 => by
        cases d3 with
        | bl k =>
          cases (show v3 = .bl k from r3)
          exact ⟨k, rfl, kq Γ3 S3 H3 k k ((e1.trans e2).trans e3) R3 rfl q3⟩
        | _ => exact False.elim q3⟩, ke.mono e1⟩, ke⟩
theorem d_pt (h : DW X W a mt) : DT X W a mt := PW.pt h
theorem d_and1 (ha : DT X W a mt) : DW X W (.BoolOp .And [a] pos) mt := pw_and1 ha
theorem d_or1 (ha : DT X W a mt) : DW X W (.BoolOp .Or [a] pos) mt := pw_or1 ha
theorem d_and (ha : DT X W a mt) (hb : DW X W (.BoolOp .And (b :: es) pos) mu) : DW X W (.BoolOp .And (a :: b :: es) pos) (mAnd mt mu) :=
  PW.imp (pw_and ha hb) fun σ H Q ⟨Γ, S, δ, Qd, Ed, c, m, kq, ke⟩ => ⟨Γ, S, δ, _, Ed, c, m, fun Γ1 S1 H1 d1 v1 e1 R1 r1 q1 => by
    cases (show d1 = v1 from r1)
    cases d1 with
    | true =>
      rw [if_pos rfl]
      exact ⟨Γ1, S1, δ, Qd, Ed, c.mk' R1 e1, q1, kq.mono e1, ke.mono e1⟩
    | false =>
      rw [if_neg Bool.false_ne_true]
      exact kq Γ1 S1 H1 false false e1 R1 rfl q1, ke⟩
theorem d_or (ha : DT X W a mt) (hb : DW X W (.BoolOp .Or (b :: es) pos) mu) : DW X W (.BoolOp .Or (a :: b :: es) pos) (mOr mt mu) :=
  PW.imp (pw_or ha hb) fun σ H Q ⟨Γ, S, δ, Qd, Ed, c, m, kq, ke⟩ => ⟨Γ, S, δ, _, Ed, c, m, fun Γ1 S1 H1 d1 v1 e1 R1 r1 q1 => by
    cases (show d1 = v1 from r1)
    cases d1 with
    | true =>
      rw [if_pos rfl]
      exact kq Γ1 S1 H1 true true e1 R1 rfl q1
    | false =>
      rw [if_neg Bool.false_ne_true]
      exact ⟨Γ1, S1, δ, Qd, Ed, c.mk' R1 e1, q1, kq.mono e1, ke.mono e1⟩, ke⟩
theorem d_not (ha : DT X W a mt) : DT X W (.UnaryOp .Not a pos) (mNot mt) :=
  PT.imp (pt_not ha) fun σ H Q ⟨Γ, S, δ, Qd, Ed, c, m, kq, ke⟩ => ⟨Γ, S, δ, _, Ed, c, m, fun Γ1 S1 H1 d1 v1 e1 R1 r1 q1 => by
    cases (show d1 = v1 from r1)
    exact kq Γ1 S1 H1 (!d1) (!d1) e1 R1 rfl q1, ke⟩
theorem d_one {op} (h : DE X W a ma) : DE X W (.BoolOp op [a] pos) ma := pe_one h
theorem d_andV (ha : DE X W a ma) (hb : DE X W (.BoolOp .And (b :: es) pos) mb) : DE X W (.BoolOp .And (a :: b :: es) pos) (mAndV ma mb) :=
  PE.imp (pe_and ha hb) fun σ H Q ⟨Γ, S, δ, Qd, Ed, c, m, kq, ke⟩ => ⟨Γ, S, δ, _, Ed, c, m, fun Γ1 S1 H1 d1 v1 e1 R1 r1 q1 => by
    cases d1 with
    | bl k =>
      cases (show v1 = .bl k from r1)
      refine ⟨k, rfl, ?_⟩
      cases k with
      | true =>
        rw [if_pos rfl]
        exact ⟨Γ1, S1, δ, Qd, Ed, c.mk' R1 e1, q1, kq.mono e1, ke.mono e1⟩
      | false =>
        rw [if_neg Bool.false_ne_true]
        exact (kq.mono e1).here (d := .bl false) R1 rfl q1
    | _ => exact False.elim q1, ke⟩
theorem d_orV (ha : DE X W a ma) (hb : DE X W (.BoolOp .Or (b :: es) pos) mb) : DE X W (.BoolOp .Or (a :: b :: es) pos) (mOrV ma mb) :=
  PE.imp (pe_or ha hb) fun σ H Q ⟨Γ, S, δ, Qd, Ed, c, m, kq, ke⟩ => ⟨Γ, S, δ, _, Ed, c, m, fun Γ1 S1 H1 d1 v1 e1 R1 r1 q1 => by
    cases d1 with
    | bl k =>
      cases (show v1 = .bl k from r1)
      refine ⟨k, rfl, ?_⟩
      cases k with
      | true =>
        rw [if_pos rfl]
        exact (kq.mono e1).here (d := .bl true) R1 rfl q1
      | false =>
        rw [if_neg Bool.false_ne_true]
        exact ⟨Γ1, S1, δ, Qd, Ed, c.mk' R1 e1, q1, kq.mono e1, ke.mono e1⟩
    | _ => exact False.elim q1, ke⟩
theorem d_notV (ha : DE X W a ma) : DE X W (.UnaryOp .Not a pos) (mNotV ma) :=
  PE.imp (pe_not ha) fun σ H Q ⟨Γ, S, δ, Qd, Ed, c, m, kq, ke⟩ => ⟨Γ, S, δ, _, Ed, c, m, fun Γ1 S1 H1 d1 v1 e1 R1 r1 q1 => by
    cases d1 with
    | bl k =>
      cases (show v1 = .bl k from r1)
      exact ⟨k, rfl, (kq.mono e1).here (d := .bl (!k)) R1 rfl q1⟩
    | _ => exact False.elim q1, ke⟩
theorem d_ifExp (hc : DT X W c mt) (ha : DE X W a ma) (hb : DE X W b mb) : DE X W (.IfExp c a b pos) (mIf mt ma mb) :=
  PE.imp (pe_ifExp hc ha hb) fun σ H Q ⟨Γ, S, δ, Qd, Ed, c, m, kq, ke⟩ => ⟨Γ, S, δ, _, Ed, c, m, fun Γ1 S1 H1 d1 v1 e1 R1 r1 q1 => by
    cases (show d1 = v1 from r1)
    cases d1 with
    | true =>
      rw [if_pos rfl]
      exact ⟨Γ1, S1, δ, Qd, Ed, c.mk' R1 e1, q1, kq.mono e1, ke.mono e1⟩
    | false =>
      rw [if_neg Bool.false_ne_true]
      exact ⟨Γ1, S1, δ, Qd, Ed, c.mk' R1 e1, q1, kq.mono e1, ke.mono e1⟩, ke⟩
/-! ### arguments, displays -/
theorem d_nil : DA X W [] mNil := PA.imp pa_nil fun σ H Q ⟨Γ, S, δ, Qd, Ed, c, m, kq, ke⟩ => kq Γ S H [] [] (Ext.refl Γ) c.rs rfl m
theorem d_cons (ha : DE X W e ma) (hr : DA X W es mas) (hs : starEach (e :: es) X.env = (false, eval e X.env) :: starEach es X.env := by rfl) : DA X W (e :: es) (mCons ma mas) :=
  PA.imp (pa_cons ha hr hs) fun σ H Q ⟨Γ, S, δ, Qd, Ed, c, m, kq, ke⟩ =>
    ⟨Γ, S, δ, _, Ed, c, m, fun Γ1 S1 H1 d1 v1 e1 R1 r1 q1 => ⟨Γ1, S1, δ, _, Ed, c.mk' R1 e1, q1, fun Γ2 S2 H2 ds vs e2 R2 r2 q2 =>
      kq Γ2 S2 H2 (d1 :: ds) (v1 :: vs) (e1.trans e2) R2 ⟨v1, vs, rfl, RV.mono e2 _ _ r1, r2⟩ q2, ke.mono e1⟩, ke⟩
theorem line_le {n : Nat} (h : n ≤ 16777216) : n ≤ sizeLine := by
  rw [sizeLine_eq]
  exact h
theorem d_tup {x1} (h : DA X W es mas) : DE X W (.Tuple es x1 pos) (mTup mas) :=
  PE.imp (pe_tup h) fun σ H Q ⟨Γ, S, δ, Qd, Ed, c, m, kq, ke⟩ => ⟨Γ, S, δ, _, Ed, c, m, fun Γ1 S1 H1 ds vs e1 R1 r1 q1 =>
    ⟨by rw [← r1.length]; exact line_le q1.1, fun p hp => (kq.mono e1).newT R1 hp r1 q1.2⟩, ke⟩
theorem d_lst (h : DA X W es mas) : DE X W (.List es pos) (mLst mas) :=
  PE.imp (pe_lst h) fun σ H Q ⟨Γ, S, δ, Qd, Ed, c, m, kq, ke⟩ => ⟨Γ, S, δ, _, Ed, c, m, fun Γ1 S1 H1 ds vs e1 R1 r1 q1 =>
    ⟨by rw [← r1.length]; exact line_le q1.1, fun p hp => (kq.mono e1).newL R1 hp r1 q1.2⟩, ke⟩
theorem d_lstO (h : DA X W es mas) : DE X W (.List es pos) (mLstO mas) :=
  PE.imp (pe_lst h) fun σ H Q ⟨Γ, S, δ, Qd, Ed, c, m, kq, ke⟩ => ⟨Γ, S, δ, _, Ed, c, m, fun Γ1 S1 H1 ds vs e1 R1 r1 q1 =>
    ⟨by rw [← r1.length]; exact line_le q1.1, fun p hp => (kq.mono e1).push (d := .lst ds) R1 hp ⟨vs, rfl, r1⟩ q1.2⟩, ke⟩
theorem d_dct : DE X W (.Dict [] [] pos) mDct :=
  PE.imp pe_dnewK fun σ H Q ⟨Γ, S, δ, Qd, Ed, c, m, kq, ke⟩ => fun p hp => kq.new (d := .dct) c.rs hp ⟨p, rfl, upd_same⟩ m
/-! ### calls of what is built in -/
variable {x : Str} {p : Pos} {id T : String} {g : GN}
theorem d_callB (hc : CallD X (.builtin id) g) (hg : Gl X x) (hm : X.mg x = none) (hv : bootBuiltins x = some (.builtin id)) (ha : DA X W (e :: es) mas) (hn : x ≠ "__name__" := by decide) (hdb : (x == ("__debug__" : Str)) = false := by decide)
    (he : starEach (e :: es) X.env = (false, eval e X.env) :: starEach es X.env := by rfl) (hpl : (backTo pos (starEach es X.env)).any (·.1) = false := by rfl) : DE X W (.Call (.Name x p) (e :: es) [] pos) (mCall g mas) :=
  PE.imp (pe_callB hc hg hm hv ha hn hdb he hpl) fun σ H Q ⟨Γ, S, δ, Qd, Ed, c, m, kq, ke⟩ => ⟨Γ, S, δ, _, Ed, c, m, fun Γ1 S1 H1 ds vs e1 R1 r1 q1 => ⟨Γ1, S1, ds, Qd, R1, r1, q1, kq.mono e1⟩, ke⟩
theorem d_callT (hc : CallD X (.type T) g) (hg : Gl X x) (hm : X.mg x = none) (hv : bootBuiltins x = some (.type T)) (ha : DA X W (e :: es) mas) (hn : x ≠ "__name__" := by decide) (hdb : (x == ("__debug__" : Str)) = false := by decide)
    (he : starEach (e :: es) X.env = (false, eval e X.env) :: starEach es X.env := by rfl) (hpl : (backTo pos (starEach es X.env)).any (·.1) = false := by rfl) : DE X W (.Call (.Name x p) (e :: es) [] pos) (mCall g mas) :=
  PE.imp (pe_callTy hc hg hm hv ha hn hdb he hpl) fun σ H Q ⟨Γ, S, δ, Qd, Ed, c, m, kq, ke⟩ => ⟨Γ, S, δ, _, Ed, c, m, fun Γ1 S1 H1 ds vs e1 R1 r1 q1 => ⟨Γ1, S1, ds, Qd, R1, r1, q1, kq.mono e1⟩, ke⟩
end
end DL
/-! D layer, part 3: operators, built-in functions, subscripts and slices over data. -/
namespace DL
open PySem PySem.Spec PyProof.Rows L2

/-! ### plain data -/
mutual
def toP : DV → Option PyData
  | .non => some .none
  | .bl b => some (.bool b)
  | .int i => some (.int i)
  | .str x => some (.str x)
  | .tup ds => match toPs ds with
    | some ps => some (.tuple ps)
    | none => none
  | .lst ds => match toPs ds with
    | some ps => some (.list ps)
    | none => none
  | .frz ds => match toPs ds with
    | some ps => some (.list ps)
    | none => none
  | .ty _ => none
  | .adr _ => none
  | .ref _ => none
  | .dct => none
  | .dcx => none
  | .ins _ _ _ => none
def toPs : List DV → Option (List PyData)
  | [] => some []
  | d :: ds => match toP d, toPs ds with
    | some p, some ps => some (p :: ps)
    | _, _ => none
end
section
variable {X : Cx} {pins : List (Addr × Obj)} {σ : L2.St} {H : Hp} {s : Shared} {Γ : AG} {S : Store}
mutual
theorem reads_of (I : Inv X pins σ H s) (R : Rs X.K Γ S H) : ∀ (d : DV) (p : PyData) (v : V) (u : Value), RV X.K Γ d v → toP d = some p → RelV v u → ∃ as, Reads s.heap u p as
  | .non, p, v, u, r, e, q => by
    cases (show v = .non from r)
    cases e
    cases q
    exact ⟨_, Reads.none⟩
  | .bl b, p, v, u, r, e, q => by
    cases (show v = .bl b from r)
    cases e
    cases q
    exact ⟨_, Reads.bool b⟩
  | .int i, p, v, u, r, e, q => by
    cases (show v = .int i from r)
    cases e
    obtain ⟨t, rfl⟩ := q
    exact ⟨_, Reads.int i t⟩
  | .str x, p, v, u, r, e, q => by
    cases (show v = .str x from r)
    cases e
    obtain ⟨t, rfl⟩ := q
    exact ⟨_, Reads.str x t⟩
  | .tup ds, p, v, u, r, e, q => by
    obtain ⟨a, vs, rfl, h2, h3⟩ := R.tup r
    cases q
    have e' : (match toPs ds with
      | some ps => some (PyData.tuple ps)
      | none => none) = some p := by simpa only [toP] using e
    cases hd : toPs ds with
    | none =>
      rw [hd] at e'
      cases e'
    | some ps =>
      rw [hd] at e'
      cases e'
      obtain ⟨its, rv, ⟨o, ho, hc, n, hdt⟩, _⟩ := I.tuple h2
      obtain ⟨as, hr⟩ := readsAll_of I R ds ps vs its h3 hd rv
      exact ⟨_, Reads.tuple ho hc hdt hr⟩
  | .lst ds, p, v, u, r, e, q => by
    obtain ⟨a, vs, rfl, h2, h3⟩ := R.lst r
    cases q
    have e' : (match toPs ds with
      | some ps => some (PyData.list ps)
      | none => none) = some p := by simpa only [toP] using e
    cases hd : toPs ds with
    | none =>
      rw [hd] at e'
      cases e'
    | some ps =>
      rw [hd] at e'
      cases e'
      obtain ⟨its, rv, ⟨o, n, ho, hc, _, hdt⟩, _⟩ := I.list (.inl (.inl h2))
      obtain ⟨as, hr⟩ := readsAll_of I R ds ps vs its h3 hd rv
      exact ⟨_, Reads.list ho hc hdt hr⟩
  | .frz ds, p, v, u, r, e, q => by
    obtain ⟨a, vs, rfl, h2, h3⟩ := R.frz r
    cases q
    have e' : (match toPs ds with
      | some ps => some (PyData.list ps)
      | none => none) = some p := by simpa only [toP] using e
    cases hd : toPs ds with
    | none =>
      rw [hd] at e'
      cases e'
    | some ps =>
      rw [hd] at e'
      cases e'
      obtain ⟨its, rv, ⟨o, n, ho, hc, _, hdt⟩, _⟩ := I.list h2
      obtain ⟨as, hr⟩ := readsAll_of I R ds ps vs its h3 hd rv
      exact ⟨_, Reads.list ho hc hdt hr⟩
  | .ty _, p, v, u, r, e, q => by cases e
  | .adr _, p, v, u, r, e, q => by cases e
  | .ref _, p, v, u, r, e, q => by cases e
  | .dct, p, v, u, r, e, q => by cases e
  | .dcx, p, v, u, r, e, q => by cases e
  | .ins _ _ _, p, v, u, r, e, q => by cases e
theorem readsAll_of (I : Inv X pins σ H s) (R : Rs X.K Γ S H) : ∀ (ds : List DV) (ps : List PyData) (vs : List V) (us : List Value), RVs X.K Γ ds vs → toPs ds = some ps → Vals vs us → ∃ as, ReadsAll s.heap us ps as
  | [], ps, vs, us, r, e, q => by
    cases (show vs = [] from r)
    cases e
    cases q
    exact ⟨_, ReadsAll.nil⟩
  | d :: ds, ps, vs, us, r, e, q => by
    obtain ⟨v, ws, rfl, h2, h3⟩ := r
    have e' : (match toP d, toPs ds with
      | some p, some ps => some (p :: ps)
      | _, _ => none) = some ps := by simpa only [toPs] using e
    cases h4 : toP d with
    | none =>
      rw [h4] at e'
      cases e'
    | some p =>
      cases h5 : toPs ds with
      | none =>
        rw [h4, h5] at e'
        cases e'
      | some qs =>
        rw [h4, h5] at e'
        cases e'
        cases q with
        | cons q1 q2 =>
          obtain ⟨as, g1⟩ := reads_of I R d p v _ h2 h4 q1
          obtain ⟨bs, g2⟩ := readsAll_of I R ds qs ws _ h3 h5 q2
          exact ⟨_, ReadsAll.cons g1 g2⟩
end
end

/-! ### operators -/
def fAdd : G2
  | .int i, .int j, S, Q => Q (.int (i + j)) S
  | .tup xs, .tup ys, S, Q => xs.length + ys.length ≤ 16777216 ∧ Q (.tup (xs ++ ys)) S
  | .lst xs, .lst ys, S, Q => xs.length + ys.length ≤ 16777216 ∧ Q (.lst (xs ++ ys)) S
  | .str x, .str y, S, Q => x.length + y.length ≤ 16777216 ∧ Q (.str (x ++ y)) S
  | _, _, _, _ => False
def fSub : G2
  | .int i, .int j, S, Q => Q (.int (i - j)) S
  | _, _, _, _ => False
def mulOk (i j : Int) : Prop := (-(2 ^ 64) < i ∧ i < 2 ^ 64) ∨ (-(2 ^ 64) < j ∧ j < 2 ^ 64) ∨ i.natAbs.log2 + j.natAbs.log2 < 1000000
def fMul : G2
  | .int i, .int j, S, Q => mulOk i j ∧ Q (.int (i * j)) S
  | .lst xs, .int k, S, Q => -(2 ^ 63) ≤ k ∧ k < 2 ^ 63 ∧ xs.length * k.toNat ≤ 16777216 ∧ Q (.lst (List.replicate k.toNat xs).flatten) S
  | _, _, _, _ => False
def fDiv : G2
  | .int i, .int j, S, Q => 0 < j ∧ j.natAbs.log2 < 9000 ∧ Q (.int (i / j)) S
  | _, _, _, _ => False
/-- // by a small number of any sign -/
def fDivN : G2
  | .int i, .int j, S, Q => j ≠ 0 ∧ j.natAbs < 1073741824 ∧ Q (.int (i.fdiv j)) S
  | _, _, _, _ => False
def fMod : G2
  | .int i, .int j, S, Q => 0 < j ∧ Q (.int (i % j)) S
  | _, _, _, _ => False
def fModN : G2
  | .int i, .int j, S, Q => j ≠ 0 ∧ Q (.int (i.fmod j)) S
  | _, _, _, _ => False
def fPow : G2
  | .int i, .int j, S, Q => 0 ≤ j ∧ j ≤ 1000000 ∧ i.natAbs < 2 ^ 64 ∧ Q (.int (i ^ j.toNat)) S
  | _, _, _, _ => False
def fNeg : G1
  | .int i, S, Q => Q (.int (-i)) S
  | _, _, _ => False
/-- == of data; q: == or != -/
def fEqD (q : Bool → Bool) : G2 := fun x y S Q => match toP x, toP y with
  | some p, some r => SeqAt.shaped p = true ∧ SeqAt.shaped r = true ∧ Q (.bl (q (PyData.eqv p r))) S
  | _, _ => False
def fEq (q : Bool → Bool) : G2
  | .int i, .int j, S, Q => Q (.bl (q (decide (i = j)))) S
  | .str x, .str y, S, Q => Q (.bl (q (decide (x = y)))) S
  | .bl x, .bl y, S, Q => Q (.bl (q (decide (x = y)))) S
  | x, y, S, Q => fEqD q x y S Q
def fLt : G2
  | .int i, .int j, S, Q => Q (.bl (decide (i < j))) S
  | .tup x, .tup y, S, Q => ∃ p r, toP (.tup x) = some p ∧ toP (.tup y) = some r ∧ PySem.W.alike p r = true ∧ p.depth ≤ 60 ∧ Q (.bl (PySem.W.dataLt p r)) S
  | _, _, _, _ => False
def fLe : G2
  | .int i, .int j, S, Q => Q (.bl (decide (i ≤ j))) S
  | _, _, _, _ => False
def fGt : G2
  | .int i, .int j, S, Q => Q (.bl (decide (j < i))) S
  | _, _, _, _ => False
def fGe : G2
  | .int i, .int j, S, Q => Q (.bl (decide (j ≤ i))) S
  | _, _, _, _ => False
/-- is None, is not None -/
def fIs (q : Bool → Bool) : G2 := fun x y S Q => y = .non ∧ (match x with
  | .non => Q (.bl (q true)) S
  | _ => Q (.bl (q false)) S)
section
variable {X : Cx} {K : PySem.W.Frag} {Γ : AG} {v : V}
theorem RV.int {i : Int} (r : RV K Γ (.int i) v) : v = .int i := r
theorem opd_add : OpD X (binaryOp .Add) fAdd := by
  intro pins s σ H x y v u Q I rx ry h
  obtain ⟨Γ, S, dx, dy, Qd, R, r1, r2, hg, kq⟩ := h
  cases dx with
  | int i =>
    cases dy with
    | int j =>
      cases r1.int
      cases r2.int
      exact op_add pins s σ H _ _ v u Q I rx ry ⟨i, j, rfl, rfl, kq.here (d := .int (i + j)) R rfl hg⟩
    | _ => exact False.elim hg
  | tup xs =>
    cases dy with
    | tup ys =>
      obtain ⟨a, vs, rfl, h1, h2⟩ := R.tup r1
      obtain ⟨b, ws, rfl, g1, g2⟩ := R.tup r2
      obtain ⟨hz, hg⟩ := hg
      refine op_catA pins s σ H _ _ v u Q I rx ry ⟨a, b, vs, ws, rfl, rfl, h1, g1, by rw [← h2.length, ← g2.length]; exact line_le hz, fun e => ?_, fun _ e => ?_, fun _ _ p hp => ?_⟩
      · have e2 : xs = [] := by
          rw [e] at h2
          exact List.eq_nil_of_length_eq_zero h2.length
        subst e2
        exact kq.here (d := .tup ys) R r2 hg
      · have e2 : ys = [] := by
          rw [e] at g2
          exact List.eq_nil_of_length_eq_zero g2.length
        subst e2
        rw [List.append_nil] at hg
        exact kq.here (d := .tup xs) R r1 hg
      · exact kq.newT R hp (h2.append g2) hg
    | _ => exact False.elim hg
  | lst xs =>
    cases dy with
    | lst ys =>
      obtain ⟨a, vs, rfl, h1, h2⟩ := R.lst r1
      obtain ⟨b, ws, rfl, g1, g2⟩ := R.lst r2
      obtain ⟨hz, hg⟩ := hg
      exact op_cat pins s σ H _ _ v u Q I rx ry ⟨a, b, vs, ws, rfl, rfl, h1, g1, by rw [← h2.length, ← g2.length]; exact line_le hz, fun p hp => kq.newL R hp (h2.append g2) hg⟩
    | _ => exact False.elim hg
  | str x =>
    cases dy with
    | str y =>
      obtain ⟨hz, hg⟩ := hg
      cases (show _ = V.str x from r1)
      cases (show _ = V.str y from r2)
      exact op_add_str pins s σ H _ _ v u Q I rx ry ⟨x, y, rfl, rfl, line_le hz, kq.here (d := .str (x ++ y)) R rfl hg⟩
    | _ => exact False.elim hg
  | _ => cases dy <;> exact False.elim hg
/-- an operation on ints alone: C what is asked, h what it makes -/
theorem opd_ints {f : Value → Value → Sem Value} {g : G2} {C : Int → Int → Prop} {h : Int → Int → DV} {hv : Int → Int → V} (hh : ∀ K Γ i j, RV K Γ (h i j) (hv i j)) (ho : OpR X f (rI C hv))
    (hg : ∀ dx dy S Q, g dx dy S Q → ∃ i j, dx = .int i ∧ dy = .int j ∧ C i j ∧ Q (h i j) S) : OpD X f g := by
  intro pins s σ H x y v u Q I rx ry q
  obtain ⟨Γ, S, dx, dy, Qd, R, r1, r2, q, kq⟩ := q
  obtain ⟨i, j, rfl, rfl, c, q2⟩ := hg _ _ _ _ q
  cases r1.int
  cases r2.int
  exact ho pins s σ H _ _ v u Q I rx ry ⟨i, j, rfl, rfl, c, kq.here R (hh _ _ i j) q2⟩
theorem opd_ints0 {f : Value → Value → Sem Value} {g : G2} {h : Int → Int → DV} {hv : Int → Int → V} (hh : ∀ K Γ i j, RV K Γ (h i j) (hv i j)) (ho : OpR X f (rI0 hv))
    (hg : ∀ dx dy S Q, g dx dy S Q → ∃ i j, dx = .int i ∧ dy = .int j ∧ Q (h i j) S) : OpD X f g := by
  intro pins s σ H x y v u Q I rx ry q
  obtain ⟨Γ, S, dx, dy, Qd, R, r1, r2, q, kq⟩ := q
  obtain ⟨i, j, rfl, rfl, q2⟩ := hg _ _ _ _ q
  cases r1.int
  cases r2.int
  exact ho pins s σ H _ _ v u Q I rx ry ⟨i, j, rfl, rfl, kq.here R (hh _ _ i j) q2⟩
theorem opd_sub : OpD X (binaryOp .Sub) fSub := opd_ints0 (h := fun i j => .int (i - j)) (fun _ _ _ _ => rfl) op_sub fun dx dy S Q q => by
  cases dx <;> cases dy <;> first | exact ⟨_, _, rfl, rfl, q⟩ | exact False.elim q
theorem mulOk.ok {i j : Int} (h : mulOk i j) : IntMulOk i j := by
  rcases h with h | h | h
  · exact CMul.ok (.inl h)
  · exact CMul.ok (.inr h)
  · exact CMulW.ok h
theorem opd_mul : OpD X (binaryOp .Mult) fMul := by
  intro pins s σ H x y v u Q I rx ry h
  obtain ⟨Γ, S, dx, dy, Qd, R, r1, r2, hg, kq⟩ := h
  cases dx with
  | int i =>
    cases dy with
    | int j =>
      cases r1.int
      cases r2.int
      obtain ⟨t, rfl⟩ := rx
      obtain ⟨t', rfl⟩ := ry
      exact mul_int ⟨.int _, H, I.tok _, ⟨_, rfl⟩, kq.here (d := .int (i * j)) R rfl hg.2⟩ hg.1.ok
    | _ => exact False.elim hg
  | lst xs =>
    cases dy with
    | int k =>
      obtain ⟨a, vs, rfl, h1, h2⟩ := R.lst r1
      cases r2.int
      obtain ⟨c1, c2, c3, hg⟩ := hg
      refine op_rep pins s σ H _ _ v u Q I rx ry ⟨a, k, vs, rfl, rfl, h1, c1, c2, by rw [← h2.length]; exact line_le c3, fun p hp => kq.newL R hp ?_ hg⟩
      have key : ∀ n : Nat, RVs X.K Γ (List.replicate n xs).flatten (List.replicate n vs).flatten := by
        intro n
        induction n with
        | zero => exact rfl
        | succ n ih =>
          rw [List.replicate_succ, List.replicate_succ, List.flatten_cons, List.flatten_cons]
          exact h2.append ih
      exact key _
    | _ => exact False.elim hg
  | _ => cases dy <;> exact False.elim hg
theorem opd_div : OpD X (binaryOp .FloorDiv) fDiv := opd_ints (C := CDivW) (h := fun i j => .int (i / j)) (fun _ _ _ _ => rfl) op_fdivW fun dx dy S Q q => by
  cases dx <;> cases dy <;> first | exact ⟨_, _, rfl, rfl, ⟨q.1, q.2.1⟩, q.2.2⟩ | exact False.elim q
theorem opd_divN : OpD X (binaryOp .FloorDiv) fDivN := opd_ints (C := CDivN) (h := fun i j => .int (i.fdiv j)) (fun _ _ _ _ => rfl) op_fdivN fun dx dy S Q q => by
  cases dx <;> cases dy <;> first | exact ⟨_, _, rfl, rfl, ⟨q.1, q.2.1⟩, q.2.2⟩ | exact False.elim q
theorem opd_mod : OpD X (binaryOp .Mod) fMod := opd_ints (C := fun _ j => 0 < j) (h := fun i j => .int (i % j)) (fun _ _ _ _ => rfl) op_mod fun dx dy S Q q => by
  cases dx <;> cases dy <;> first | exact ⟨_, _, rfl, rfl, q.1, q.2⟩ | exact False.elim q
theorem opd_modN : OpD X (binaryOp .Mod) fModN := opd_ints (C := fun _ j => j ≠ 0) (h := fun i j => .int (i.fmod j)) (fun _ _ _ _ => rfl) op_modN fun dx dy S Q q => by
  cases dx <;> cases dy <;> first | exact ⟨_, _, rfl, rfl, q.1, q.2⟩ | exact False.elim q
theorem opd_pow : OpD X (binaryOp .Pow) fPow := opd_ints (C := CPow) (h := fun i j => .int (i ^ j.toNat)) (fun _ _ _ _ => rfl) op_pow fun dx dy S Q q => by
  cases dx <;> cases dy <;> first | exact ⟨_, _, rfl, rfl, ⟨q.1, q.2.1, q.2.2.1⟩, q.2.2.2⟩ | exact False.elim q
theorem opd_le : OpD X (compareOp .LtE) fLe := opd_ints0 (h := fun i j => .bl (decide (i ≤ j))) (fun _ _ _ _ => rfl) op_le fun dx dy S Q q => by
  cases dx <;> cases dy <;> first | exact ⟨_, _, rfl, rfl, q⟩ | exact False.elim q
theorem opd_gt : OpD X (compareOp .Gt) fGt := opd_ints0 (h := fun i j => .bl (decide (j < i))) (fun _ _ _ _ => rfl) op_gt fun dx dy S Q q => by
  cases dx <;> cases dy <;> first | exact ⟨_, _, rfl, rfl, q⟩ | exact False.elim q
theorem opd_ge : OpD X (compareOp .GtE) fGe := opd_ints0 (h := fun i j => .bl (decide (j ≤ i))) (fun _ _ _ _ => rfl) op_ge fun dx dy S Q q => by
  cases dx <;> cases dy <;> first | exact ⟨_, _, rfl, rfl, q⟩ | exact False.elim q
theorem und_neg : UnD X (unaryOp .USub) fNeg := by
  intro pins s σ H x v Q I rx h
  obtain ⟨Γ, S, dx, Qd, R, r1, hg, kq⟩ := h
  cases dx with
  | int i =>
    cases r1.int
    exact un_neg pins s σ H _ v Q I rx ⟨i, rfl, kq.here (d := .int (-i)) R rfl hg⟩
  | _ => exact False.elim hg
/-! ### comparisons of data -/
theorem eqD_run {pins : List (Addr × Obj)} {s : Shared} {σ : L2.St} {H : Hp} {x y : V} {v u : Value} {Q : VK} (hu : X.A.units + 64 < cLine) (I : Inv X pins σ H s) (rx : RelV x v) (ry : RelV y u) {Γ : AG} {S : Store} {dx dy : DV} {Qd : MK DV} (R : Rs X.K Γ S H) (r1 : RV X.K Γ dx x) (r2 : RV X.K Γ dy y)
    (kq : KQ (RV X.K) X.K Γ Qd Q) : (fEqD (fun b => b) dx dy S Qd → wpAny (model X.prog X.w) X.A (compareOp .Eq v u) (EP X pins σ Q) X.xe s) ∧ (fEqD (fun b => !b) dx dy S Qd → wpAny (model X.prog X.w) X.A (compareOp .NotEq v u) (EP X pins σ Q) X.xe s) := by
  constructor
  · intro hg
    unfold fEqD at hg
    cases e1 : toP dx with
    | none =>
      rw [e1] at hg
      exact hg.elim
    | some p =>
      cases e2 : toP dy with
      | none =>
        rw [e1, e2] at hg
        exact hg.elim
      | some q =>
        rw [e1, e2] at hg
        obtain ⟨s1, s2, hg⟩ := hg
        obtain ⟨as, g1⟩ := reads_of I R dx p x v r1 e1 rx
        obtain ⟨bs, g2⟩ := reads_of I R dy q y u r2 e2 ry
        exact SeqAt.compareEq_shaped g1 g2 s1 s2 hu ⟨.bl _, H, I, rfl, kq.here (d := .bl (PyData.eqv p q)) R rfl hg⟩
  · intro hg
    unfold fEqD at hg
    cases e1 : toP dx with
    | none =>
      rw [e1] at hg
      exact hg.elim
    | some p =>
      cases e2 : toP dy with
      | none =>
        rw [e1, e2] at hg
        exact hg.elim
      | some q =>
        rw [e1, e2] at hg
        obtain ⟨s1, s2, hg⟩ := hg
        obtain ⟨as, g1⟩ := reads_of I R dx p x v r1 e1 rx
        obtain ⟨bs, g2⟩ := reads_of I R dy q y u r2 e2 ry
        exact SeqAt.compareNe_shaped g1 g2 s1 s2 hu ⟨.bl _, H, I, rfl, kq.here (d := .bl (!PyData.eqv p q)) R rfl hg⟩
theorem opd_eq (hu : X.A.units + 64 < cLine) : OpD X (compareOp .Eq) (fEq fun b => b) := by
  intro pins s σ H x y v u Q I rx ry h
  obtain ⟨Γ, S, dx, dy, Qd, R, r1, r2, hg, kq⟩ := h
  have gen : fEqD (fun b => b) dx dy S Qd → wpAny (model X.prog X.w) X.A (compareOp .Eq v u) (EP X pins σ Q) X.xe s := (eqD_run hu I rx ry R r1 r2 kq).1
  cases dx with
  | int i =>
    cases dy with
    | int j =>
      cases r1.int
      cases r2.int
      refine op_eq pins s σ H _ _ v u Q I rx ry ⟨rfl, kq.here (d := .bl (decide (i = j))) R ?_ hg⟩
      show V.bl (decide (V.int i = V.int j)) = V.bl (decide (i = j))
      congr 1
      simp
    | _ => exact gen hg
  | str a =>
    cases dy with
    | str b =>
      cases (show _ = V.str a from r1)
      cases (show _ = V.str b from r2)
      refine op_eq pins s σ H _ _ v u Q I rx ry ⟨rfl, kq.here (d := .bl (decide (a = b))) R ?_ hg⟩
      show V.bl (decide (V.str a = V.str b)) = V.bl (decide (a = b))
      congr 1
      simp
    | _ => exact gen hg
  | bl a =>
    cases dy with
    | bl b =>
      cases (show _ = V.bl a from r1)
      cases (show _ = V.bl b from r2)
      refine op_eq pins s σ H _ _ v u Q I rx ry ⟨rfl, kq.here (d := .bl (decide (a = b))) R ?_ hg⟩
      show V.bl (decide (V.bl a = V.bl b)) = V.bl (decide (a = b))
      congr 1
      simp
    | _ => exact gen hg
  | _ => cases dy <;> exact gen hg
theorem opd_ne (hu : X.A.units + 64 < cLine) : OpD X (compareOp .NotEq) (fEq fun b => !b) := by
  intro pins s σ H x y v u Q I rx ry h
  obtain ⟨Γ, S, dx, dy, Qd, R, r1, r2, hg, kq⟩ := h
  have gen : fEqD (fun b => !b) dx dy S Qd → wpAny (model X.prog X.w) X.A (compareOp .NotEq v u) (EP X pins σ Q) X.xe s := (eqD_run hu I rx ry R r1 r2 kq).2
  cases dx with
  | int i =>
    cases dy with
    | int j =>
      cases r1.int
      cases r2.int
      refine op_ne pins s σ H _ _ v u Q I rx ry ⟨rfl, kq.here (d := .bl (!decide (i = j))) R ?_ hg⟩
      show V.bl (!decide (V.int i = V.int j)) = V.bl (!decide (i = j))
      congr 2
      simp
    | _ => exact gen hg
  | str a =>
    cases dy with
    | str b =>
      cases (show _ = V.str a from r1)
      cases (show _ = V.str b from r2)
      refine op_ne pins s σ H _ _ v u Q I rx ry ⟨rfl, kq.here (d := .bl (!decide (a = b))) R ?_ hg⟩
      show V.bl (!decide (V.str a = V.str b)) = V.bl (!decide (a = b))
      congr 2
      simp
    | _ => exact gen hg
  | bl a =>
    cases dy with
    | bl b =>
      cases (show _ = V.bl a from r1)
      cases (show _ = V.bl b from r2)
      refine op_ne pins s σ H _ _ v u Q I rx ry ⟨rfl, kq.here (d := .bl (!decide (a = b))) R ?_ hg⟩
      show V.bl (!decide (V.bl a = V.bl b)) = V.bl (!decide (a = b))
      congr 2
      simp
    | _ => exact gen hg
  | _ => cases dy <;> exact gen hg
theorem opd_lt (hu : X.A.units + 64 < cLine) : OpD X (compareOp .Lt) fLt := by
  intro pins s σ H x y v u Q I rx ry h
  obtain ⟨Γ, S, dx, dy, Qd, R, r1, r2, hg, kq⟩ := h
  cases dx with
  | int i =>
    cases dy with
    | int j =>
      cases r1.int
      cases r2.int
      exact op_lt pins s σ H _ _ v u Q I rx ry ⟨i, j, rfl, rfl, kq.here (d := .bl (decide (i < j))) R rfl hg⟩
    | _ => exact False.elim hg
  | tup xs =>
    cases dy with
    | tup ys =>
      obtain ⟨p, q, e1, e2, ha, hd, hg⟩ := hg
      obtain ⟨as, g1⟩ := reads_of I R _ p x v r1 e1 rx
      obtain ⟨bs, g2⟩ := reads_of I R _ q y u r2 e2 ry
      have hp : p ≠ .none := fun e => by
        rw [e] at g1
        obtain ⟨a, vs, rfl, _, _⟩ := R.tup r1
        cases rx
        cases g1
      have hm : min p.depth q.depth ≤ p.depth := Nat.min_le_left _ _
      exact PySem.W.rcLt_alike p q X.A s v u as bs g1 g2 ha hp (by omega) X.prog X.w X.xe _ ⟨.bl _, H, I, rfl, kq.here (d := .bl (PySem.W.dataLt p q)) R rfl hg⟩
    | _ => exact False.elim hg
  | _ => cases dy <;> exact False.elim hg
theorem isN_of {d : DV} (r : RV K Γ d v) : decide (v = .non) = (match d with
    | .non => true
    | _ => false) := by
  cases d with
  | non => cases (show v = .non from r); rfl
  | bl b => cases (show v = .bl b from r); rfl
  | int i => cases (show v = .int i from r); rfl
  | str x => cases (show v = .str x from r); rfl
  | ty n => cases (show v = .ty n from r); rfl
  | adr q => cases (show v = .ref q from r); rfl
  | ref i => obtain ⟨_, _, rfl⟩ := r; rfl
  | dct => obtain ⟨_, rfl, _⟩ := r; rfl
  | dcx => obtain ⟨_, _, rfl, _⟩ := r; rfl
  | tup ds => obtain ⟨_, _, rfl, _⟩ := r; rfl
  | lst ds => obtain ⟨_, _, rfl, _⟩ := r; rfl
  | frz ds => obtain ⟨_, _, rfl, _⟩ := r; rfl
  | ins C f y => obtain ⟨_, _, _, rfl, _⟩ := r; rfl
theorem opd_is : OpD X (compareOp .Is) (fIs fun b => b) := by
  intro pins s σ H x y v u Q I rx ry h
  obtain ⟨Γ, S, dx, dy, Qd, R, r1, r2, ⟨e, hg⟩, kq⟩ := h
  subst e
  cases (show y = .non from r2)
  refine op_isN pins s σ H _ _ v u Q I rx ry ⟨rfl, ?_⟩
  rw [isN_of r1]
  cases dx <;> exact kq.here (d := .bl _) R rfl hg
theorem opd_isNot : OpD X (compareOp .IsNot) (fIs fun b => !b) := by
  intro pins s σ H x y v u Q I rx ry h
  obtain ⟨Γ, S, dx, dy, Qd, R, r1, r2, ⟨e, hg⟩, kq⟩ := h
  subst e
  cases (show y = .non from r2)
  refine op_notN pins s σ H _ _ v u Q I rx ry ⟨rfl, ?_⟩
  rw [isN_of r1]
  cases dx <;> exact kq.here (d := .bl _) R rfl hg
end
end DL
/-! D layer, part 4: built-in functions, subscripts and slices over data. -/
namespace DL
open PySem PySem.Spec PyProof.Rows L2

theorem vals_cons {a : V} {vs : List V} {us : List Value} (r : Vals (a :: vs) us) : ∃ u ws, us = u :: ws ∧ RelV a u ∧ Vals vs ws := by
  cases r with
  | cons p q => exact ⟨_, _, rfl, p, q⟩
theorem vals_nil {us : List Value} (r : Vals [] us) : us = [] := by
  cases r
  rfl
section
variable {K : PySem.W.Frag} {Γ : AG} {d e : DV} {ds : List DV} {vs : List V}
theorem RVs.one (r : RVs K Γ [d] vs) : ∃ v, vs = [v] ∧ RV K Γ d v := by
  obtain ⟨v, us, rfl, h1, h2⟩ := r
  cases (show us = [] from h2)
  exact ⟨v, rfl, h1⟩
theorem RVs.two (r : RVs K Γ [d, e] vs) : ∃ v w, vs = [v, w] ∧ RV K Γ d v ∧ RV K Γ e w := by
  obtain ⟨v, us, rfl, h1, h2⟩ := r
  obtain ⟨w, rfl, h3⟩ := RVs.one (Γ := Γ) h2
  exact ⟨v, w, rfl, h1, h3⟩
end
/-- the items of an unchanging list, of a tuple, of a list in the store -/
def seqD (S : Store) : DV → Option (List DV)
  | .tup ds => some ds
  | .lst ds => some ds
  | .frz ds => some ds
  | .ref i => match S[i]? with
    | some (some (.lst ds)) => some ds
    | _ => none
  | _ => none
def gLen : GN
  | [.str x], S, Q => x.length ≤ 16777216 ∧ Q (.int x.length) S
  | [d], S, Q => match seqD S d with
    | some ds => Q (.int ds.length) S
    | none => False
  | _, _, _ => False
def gInt : GN
  | [.int i], S, Q => Q (.int i) S
  | [.bl b], S, Q => Q (.int (if b then 1 else 0)) S
  | [.str x], S, Q => ∃ n, PySem.intText? x = some n ∧ x.length ≤ 640 ∧ Q (.int n) S
  | _, _, _ => False
def gBool : GN
  | [.int i], S, Q => Q (.bl (i != 0)) S
  | [.bl b], S, Q => Q (.bl b) S
  | _, _, _ => False
def gStr : GN
  | [.int i], S, Q => i.natAbs.log2 < 1920 ∧ Q (.str (toString i)) S
  | _, _, _ => False
/-- list(..): a list that never changes; one that may -/
def gList : GN
  | [d], S, Q => match seqD S d with
    | some ds => Q (.lst ds) S
    | none => False
  | _, _, _ => False
def gListO : GN
  | [d], S, Q => match seqD S d with
    | some ds => Q (.ref S.length) (S ++ [some (.lst ds)])
    | none => False
  | _, _, _ => False
def gTuple : GN
  | [d], S, Q => match seqD S d with
    | some ds => Q (.tup ds) S
    | none => False
  | _, _, _ => False
/-- the ints of a row -/
def intsD : List DV → Option (List Int)
  | [] => some []
  | .int i :: r => match intsD r with
    | some is => some (i :: is)
    | none => none
  | _ => none
theorem intsD_eq : ∀ {ds : List DV} {is : List Int}, intsD ds = some is → ds = is.map DV.int
  | [], is, h => by
    cases h
    rfl
  | .int i :: r, is, h => by
    have h' : (match intsD r with
      | some is => some (i :: is)
      | none => none) = some is := h
    cases e : intsD r with
    | none =>
      rw [e] at h'
      cases h'
    | some js =>
      rw [e] at h'
      cases h'
      rw [intsD_eq e]
      rfl
  | .non :: r, is, h => by cases h
  | .bl _ :: r, is, h => by cases h
  | .str _ :: r, is, h => by cases h
  | .ty _ :: r, is, h => by cases h
  | .adr _ :: r, is, h => by cases h
  | .ref _ :: r, is, h => by cases h
  | .dct :: r, is, h => by cases h
  | .dcx :: r, is, h => by cases h
  | .tup _ :: r, is, h => by cases h
  | .lst _ :: r, is, h => by cases h
  | .frz _ :: r, is, h => by cases h
  | .ins _ _ _ :: r, is, h => by cases h
theorem intsD_map : ∀ is : List Int, intsD (is.map DV.int) = some is
  | [] => rfl
  | i :: r => by
    show (match intsD (r.map DV.int) with
      | some is => some (i :: is)
      | none => none) = some (i :: r)
    rw [intsD_map r]
/-- sum of ints -/
def gSum : GN
  | [d], S, Q => match seqD S d with
    | some ds => (match intsD ds with
      | some is => Q (.int is.sum) S
      | none => False)
    | none => False
  | _, _, _ => False
def gAbs : GN
  | [.int i], S, Q => Q (.int (if i < 0 then -i else i)) S
  | _, _, _ => False
/-- max of two ints, of a tuple of ints -/
def gMax : GN
  | [.int i, .int j], S, Q => Q (.int (if j > i then j else i)) S
  | [.tup ds], S, Q => ∃ is, ds = is.map DV.int ∧ is ≠ [] ∧ ∀ m, m ∈ is → (∀ y, y ∈ is → y ≤ m) → Q (.int m) S
  | _, _, _ => False
def gMin : GN
  | [.int i, .int j], S, Q => Q (.int (if j < i then j else i)) S
  | _, _, _ => False
def gRepr : GN
  | [d], S, Q => match toP d with
    | some p => p.showable = true ∧ p.hasDict = false ∧ p.depth ≤ 60 ∧ p.shown.length ≤ 16777216 ∧ Q (.str p.shown) S
    | none => False
  | _, _, _ => False
section
variable {X : Cx}
theorem seqD_of {K : PySem.W.Frag} {Γ : AG} {S : Store} {H : Hp} {d : DV} {v : V} {ds : List DV} (R : Rs K Γ S H) (r : RV K Γ d v) (e : seqD S d = some ds) : ∃ p vs, v = .ref p ∧ (SqL K H p vs ∨ SqT K H p vs) ∧ RVs K Γ ds vs ∧ ((∃ cs, d = .tup cs) → SqT K H p vs) ∧ ((¬ ∃ cs, d = .tup cs) → SqL K H p vs) := by
  cases d with
  | tup cs =>
    cases e
    obtain ⟨p, vs, h1, h2, h3⟩ := R.tup r
    exact ⟨p, vs, h1, .inr h2, h3, fun _ => h2, fun h => absurd ⟨_, rfl⟩ h⟩
  | lst cs =>
    cases e
    obtain ⟨p, vs, h1, h2, h3⟩ := R.lst r
    exact ⟨p, vs, h1, .inl (SqL.of h2), h3, fun ⟨_, h⟩ => (nomatch h), fun _ => SqL.of h2⟩
  | frz cs =>
    cases e
    obtain ⟨p, vs, h1, h2, h3⟩ := R.frz r
    exact ⟨p, vs, h1, .inl h2, h3, fun ⟨_, h⟩ => (nomatch h), fun _ => h2⟩
  | ref i =>
    have e' : (match S[i]? with
      | some (some (DO.lst ds)) => some ds
      | _ => none) = some ds := e
    cases h : S[i]? with
    | none =>
      rw [h] at e'
      cases e'
    | some o =>
      cases o with
      | none =>
        rw [h] at e'
        cases e'
      | some o =>
        cases o with
        | lst cs =>
          rw [h] at e'
          cases e'
          obtain ⟨a, h1, h2, vs, h3, h4⟩ := R.ref r h
          exact ⟨a, vs, h1, .inl (SqL.of h3), h4, fun ⟨_, h⟩ => (nomatch h), fun _ => SqL.of h3⟩
        | ins _ _ =>
          rw [h] at e'
          cases e'
        | dct _ =>
          rw [h] at e'
          cases e'
  | _ => cases e
theorem cd_len : CallD X (.builtin "len") gLen := by
  intro pins s σ H xs us Q I rx h
  obtain ⟨Γ, S, ds, Qd, R, r1, hg, kq⟩ := h
  match ds, r1, hg with
  | [], _, hg => exact False.elim hg
  | [d], r1, hg =>
    obtain ⟨v, rfl, r⟩ := r1.one
    have gen : (match seqD S d with
      | some ds => Qd (.int ds.length) S
      | none => False) → wpAny (model X.prog X.w) X.A (call (.builtin "len") us) (EP X pins σ Q) X.xe s := by
      intro q
      cases e : seqD S d with
      | none =>
        rw [e] at q
        exact q.elim
      | some ds =>
        rw [e] at q
        obtain ⟨p, vs, rfl, h1, h2, _, _⟩ := seqD_of R r e
        refine call_len_seq pins s σ H _ us Q I rx ⟨p, vs, rfl, h1, ?_⟩
        rw [← h2.length]
        exact kq.here (d := .int _) R rfl q
    cases d with
    | str x =>
      cases (show v = .str x from r)
      exact call_len_str pins s σ H _ us Q I rx ⟨x, rfl, line_le hg.1, kq.here (d := .int _) R rfl hg.2⟩
    | _ => exact gen hg
  | d :: d2 :: r, _, hg => exact False.elim (by cases d <;> exact hg)
theorem cd_int : CallD X (.type "int") gInt := by
  intro pins s σ H xs us Q I rx h
  obtain ⟨Γ, S, ds, Qd, R, r1, hg, kq⟩ := h
  match ds, r1, hg with
  | [], _, hg => exact False.elim hg
  | [d], r1, hg =>
    obtain ⟨v, rfl, r⟩ := r1.one
    cases d with
    | int i =>
      cases r.int
      exact call_int1 pins s σ H _ us Q I rx (.inl ⟨i, rfl, kq.here (d := .int i) R rfl hg⟩)
    | bl b =>
      cases (show v = .bl b from r)
      exact call_int1 pins s σ H _ us Q I rx (.inr ⟨b, rfl, kq.here (d := .int _) R rfl hg⟩)
    | str x =>
      cases (show v = .str x from r)
      obtain ⟨n, h1, h2, hg⟩ := hg
      exact call_int_str pins s σ H _ us Q I rx ⟨x, n, rfl, h1, h2, kq.here (d := .int n) R rfl hg⟩
    | _ => exact False.elim hg
  | d :: d2 :: r, _, hg => exact False.elim (by cases d <;> exact hg)
theorem cd_bool : CallD X (.type "bool") gBool := by
  intro pins s σ H xs us Q I rx h
  obtain ⟨Γ, S, ds, Qd, R, r1, hg, kq⟩ := h
  match ds, r1, hg with
  | [], _, hg => exact False.elim hg
  | [d], r1, hg =>
    obtain ⟨v, rfl, r⟩ := r1.one
    cases d with
    | int i =>
      cases r.int
      exact call_bool1 pins s σ H _ us Q I rx (.inl ⟨i, rfl, kq.here (d := .bl _) R rfl hg⟩)
    | bl b =>
      cases (show v = .bl b from r)
      exact call_bool1 pins s σ H _ us Q I rx (.inr ⟨b, rfl, kq.here (d := .bl _) R rfl hg⟩)
    | _ => exact False.elim hg
  | d :: d2 :: r, _, hg => exact False.elim (by cases d <;> exact hg)
theorem cd_str : CallD X (.type "str") gStr := by
  intro pins s σ H xs us Q I rx h
  obtain ⟨Γ, S, ds, Qd, R, r1, hg, kq⟩ := h
  match ds, r1, hg with
  | [], _, hg => exact False.elim hg
  | [d], r1, hg =>
    obtain ⟨v, rfl, r⟩ := r1.one
    cases d with
    | int i =>
      cases r.int
      exact call_str_int pins s σ H _ us Q I rx ⟨i, rfl, hg.1, kq.here (d := .str _) R rfl hg.2⟩
    | _ => exact False.elim hg
  | d :: d2 :: r, _, hg => exact False.elim (by cases d <;> exact hg)
theorem cd_list : CallD X (.type "list") gList := by
  intro pins s σ H xs us Q I rx h
  obtain ⟨Γ, S, ds, Qd, R, r1, hg, kq⟩ := h
  match ds, r1, hg with
  | [], _, hg => exact False.elim hg
  | [d], r1, hg =>
    obtain ⟨v, rfl, r⟩ := r1.one
    have q : (match seqD S d with
      | some ds => Qd (.lst ds) S
      | none => False) := hg
    cases e : seqD S d with
    | none =>
      rw [e] at q
      exact q.elim
    | some ds =>
      rw [e] at q
      obtain ⟨p, vs, rfl, h1, h2, _, _⟩ := seqD_of R r e
      exact call_list_of pins s σ H _ us Q I rx ⟨p, vs, rfl, h1, fun l hl => kq.newL R hl h2 q⟩
  | d :: d2 :: r, _, hg => exact False.elim hg
theorem cd_listO : CallD X (.type "list") gListO := by
  intro pins s σ H xs us Q I rx h
  obtain ⟨Γ, S, ds, Qd, R, r1, hg, kq⟩ := h
  match ds, r1, hg with
  | [], _, hg => exact False.elim hg
  | [d], r1, hg =>
    obtain ⟨v, rfl, r⟩ := r1.one
    have q : (match seqD S d with
      | some ds => Qd (.ref S.length) (S ++ [some (.lst ds)])
      | none => False) := hg
    cases e : seqD S d with
    | none =>
      rw [e] at q
      exact q.elim
    | some ds =>
      rw [e] at q
      obtain ⟨p, vs, rfl, h1, h2, _, _⟩ := seqD_of R r e
      exact call_list_of pins s σ H _ us Q I rx ⟨p, vs, rfl, h1, fun l hl => kq.push (d := .lst ds) R hl ⟨vs, rfl, h2⟩ q⟩
  | d :: d2 :: r, _, hg => exact False.elim hg
theorem cd_tuple : CallD X (.type "tuple") gTuple := by
  intro pins s σ H xs us Q I rx h
  obtain ⟨Γ, S, ds, Qd, R, r1, hg, kq⟩ := h
  match ds, r1, hg with
  | [], _, hg => exact False.elim hg
  | [d], r1, hg =>
    obtain ⟨v, rfl, r⟩ := r1.one
    have q : (match seqD S d with
      | some ds => Qd (.tup ds) S
      | none => False) := hg
    cases e : seqD S d with
    | none =>
      rw [e] at q
      exact q.elim
    | some ds =>
      rw [e] at q
      obtain ⟨p, vs, rfl, _, h2, h3, h4⟩ := seqD_of R r e
      by_cases ht : ∃ cs, d = .tup cs
      · obtain ⟨cs, rfl⟩ := ht
        cases e
        exact call_tuple_of pins s σ H _ us Q I rx ⟨p, vs, rfl, .inr ⟨h3 ⟨_, rfl⟩, kq.here (d := .tup ds) R r q⟩⟩
      · exact call_tuple_of pins s σ H _ us Q I rx ⟨p, vs, rfl, .inl ⟨h4 ht, fun l hl => kq.newT R hl h2 q⟩⟩
  | d :: d2 :: r, _, hg => exact False.elim hg
theorem cd_abs : CallD X (.builtin "abs") gAbs := by
  intro pins s σ H xs us Q I rx h
  obtain ⟨Γ, S, ds, Qd, R, r1, hg, kq⟩ := h
  match ds, r1, hg with
  | [], _, hg => exact False.elim hg
  | [d], r1, hg =>
    obtain ⟨v, rfl, r⟩ := r1.one
    cases d with
    | int i =>
      cases r.int
      exact call_abs pins s σ H _ us Q I rx ⟨i, rfl, kq.here (d := .int _) R rfl hg⟩
    | _ => exact False.elim hg
  | d :: d2 :: r, _, hg => exact False.elim (by cases d <;> exact hg)
/-! ### sum -/
theorem sum_tup {prog : Program} {w : World} {A : Around} {E : Value → Shared → Prop} {s : Shared} {l : Addr} {its : List Value} {ns : List Int} {Q : Value → Shared → Prop} (hh : A.handled = none) (hl : s.heap.IsTuple l its.toArray) (hi : IntsAre its ns)
    (h : ∀ h' tk t', (∀ b o, s.heap.get? b = some o → h'.get? b = some o) → Q (.int ns.sum t') { s with heap := h', toks := tk }) : wpAny (model prog w) A (call (.builtin "sum") [.ref l]) Q E s := by
  obtain ⟨xs, e⟩ := hi.allInts.items
  have hn : numsOf (intItems xs).toList = ns := by rw [← e]; exact hi.numsOf
  rw [nums_intItems] at hn
  rw [e] at hl
  have hlt : l < s.heap.objs.size := by obtain ⟨_, e1, _⟩ := hl; exact Heap.lt_size e1
  refine call_sum_walkG (wpAny_pyIter_tuple hl ?_)
  have hl2 : (s.heap.push { cls := .type "tuple_iterator", data := .fields #[.ref l, .int 0 0] }).IsTuple l (intItems xs) := by
    obtain ⟨o, h1, h2, n, h3⟩ := hl
    exact ⟨o, Heap.get?_push_of_some _ h1, h2, n, h3⟩
  refine ⟨_, _, _, _, _, _, numAt xs, rfl, Walks.tuple (A := A.in1) hh s.heap.objs.size l (Nat.ne_of_lt hlt) (intItems xs), ⟨⟨_, Heap.get?_push_size _ rfl, rfl, rfl⟩, hl2⟩, fun b hb => ?_, (fun _ _ => intItems_at), fun h' tk t' hk => ?_⟩
  · show b < (s.heap.push _).objs.size
    rw [Heap.size_push]
    rcases List.mem_cons.mp hb with rfl | hb
    · exact Nat.lt_succ_self _
    · have e2 : b = l := by simpa using hb
      rw [e2]
      exact Nat.lt_succ_of_lt hlt
  · have := h h' tk t' (fun b o e1 => by
      refine hk b o (fun hm => ?_) (Heap.get?_push_of_some _ e1)
      have e2 : b = s.heap.objs.size := by simpa using hm
      rw [e2] at e1
      exact absurd (Heap.lt_size e1) (Nat.lt_irrefl _))
    rw [preSum_eq, List.take_of_length_le (by simp [intItems]), hn]
    exact this
theorem cd_sum (hc : X.calm = true) : CallD X (.builtin "sum") gSum := by
  intro pins s σ H xs us Q I rx h
  obtain ⟨Γ, S, ds, Qd, R, r1, hg, kq⟩ := h
  match ds, r1, hg with
  | [], _, hg => exact False.elim hg
  | [d], r1, hg =>
    obtain ⟨v, rfl, r⟩ := r1.one
    have q : (match seqD S d with
      | some ds => (match intsD ds with
        | some is => Qd (.int is.sum) S
        | none => False)
      | none => False) := hg
    cases e : seqD S d with
    | none =>
      rw [e] at q
      exact q.elim
    | some ds =>
      rw [e] at q
      have q1 : (match intsD ds with
        | some is => Qd (.int is.sum) S
        | none => False) := q
      cases e2 : intsD ds with
      | none =>
        rw [e2] at q1
        exact q1.elim
      | some is =>
        rw [e2] at q1
        have e3 := intsD_eq e2
        subst e3
        obtain ⟨p, vs, rfl, h1, h2, _, _⟩ := seqD_of R r e
        have e4 := h2.ints
        subst e4
        rcases h1 with h1 | h1
        · exact cr_sum hc pins s σ H _ us Q I rx ⟨p, is, rfl, h1, kq.here (d := .int _) R rfl q1⟩
        · obtain ⟨its, rv, ht, _⟩ := I.tuple h1
          obtain ⟨u, ws, rfl, ru, rn⟩ := vals_cons rx
          cases (show u = Value.ref p from ru)
          cases vals_nil rn
          exact sum_tup (I.ok.hd hc) ht rv.ints fun h' tk t' hk => ⟨.int _, H, I.kept hk, ⟨_, rfl⟩, kq.here (d := .int _) R rfl q1⟩
  | d :: d2 :: r, _, hg => exact False.elim hg
/-! ### repr -/
theorem cd_repr (hg0 : X.A.guards = some []) (hu : X.A.units + 64 < cLine) : CallD X (.builtin "repr") gRepr := by
  intro pins s σ H xs us Q I rx h
  obtain ⟨Γ, S, ds, Qd, R, r1, hg, kq⟩ := h
  match ds, r1, hg with
  | [], _, hg => exact False.elim hg
  | [d], r1, hg =>
    obtain ⟨v, rfl, r⟩ := r1.one
    have q : (match toP d with
      | some p => p.showable = true ∧ p.hasDict = false ∧ p.depth ≤ 60 ∧ p.shown.length ≤ 16777216 ∧ Qd (.str p.shown) S
      | none => False) := hg
    obtain ⟨u, ws, rfl, ru, rn⟩ := vals_cons rx
    cases vals_nil rn
    cases e : toP d with
    | none =>
      rw [e] at q
      exact q.elim
    | some p =>
      rw [e] at q
      obtain ⟨h1, h2, h3, h4, q⟩ := q
      obtain ⟨as, g⟩ := reads_of I R d p v u r e ru
      have hsm : p.hasDict = true → sysModules ∉ as := fun e => by
        rw [h2] at e
        cases e
      have hz := line_le h4
      have fin : ∀ h' t tk, (∀ b o, s.heap.get? b = some o → h'.get? b = some o) → EP X pins σ Q (.str p.shown t) { s with heap := h', toks := tk } := fun h' t tk hk =>
        ⟨.str p.shown, H, I.kept hk, ⟨_, rfl⟩, kq.here (d := .str _) R rfl q⟩
      cases g with
      | none => exact PySem.P.repr_of_none (fin s.heap _ _ fun _ _ e => e)
      | bool b => exact PySem.P.repr_of_bool (fin s.heap _ _ fun _ _ e => e)
      | int i t => exact PySem.P.repr_of_int (of_decide_eq_true h1) (fin s.heap _ _ fun _ _ e => e)
      | str x t => exact PySem.P.repr_of_str (fin s.heap _ _ fun _ _ e => e) hz
      | list a1 a2 a3 a4 => exact repr_of_reads' (Reads.list a1 a2 a3 a4) h1 hsm hg0 (by omega) (fun _ _ e => e) (fun h' t tk hk => fin h' t tk hk) hz
      | tuple a1 a2 a3 a4 => exact repr_of_reads' (Reads.tuple a1 a2 a3 a4) h1 hsm hg0 (by omega) (fun _ _ e => e) (fun h' t tk hk => fin h' t tk hk) hz
      | dict a1 a2 a3 a4 a5 => exact repr_of_reads' (Reads.dict a1 a2 a3 a4 a5) h1 hsm hg0 (by omega) (fun _ _ e => e) (fun h' t tk hk => fin h' t tk hk) hz
  | d :: d2 :: r, _, hg => exact False.elim hg
/-! ### max, min -/
theorem data_ints {s : Shared} : ∀ {its : List Value} {ns : List Int}, IntsAre its ns → ∃ as, ReadsAll s.heap its (ns.map PyData.int) as
  | _, _, .nil => ⟨_, ReadsAll.nil⟩
  | _, _, .cons n t h => by
    obtain ⟨as, g⟩ := data_ints (s := s) h
    exact ⟨_, ReadsAll.cons (Reads.int n t) g⟩
theorem cd_min (hc : X.calm = true) : CallD X (.builtin "min") gMin := by
  intro pins s σ H xs us Q I rx h
  obtain ⟨Γ, S, ds, Qd, R, r1, hg, kq⟩ := h
  match ds, r1, hg with
  | [], _, hg => exact False.elim hg
  | [d], r1, hg => exact False.elim (by cases d <;> exact hg)
  | [d, e], r1, hg =>
    obtain ⟨v, w, rfl, g1, g2⟩ := r1.two
    cases d with
    | int i =>
      cases e with
      | int j =>
        cases g1.int
        cases g2.int
        exact call_min2 hc pins s σ H _ us Q I rx ⟨i, j, rfl, kq.here (d := .int _) R rfl hg⟩
      | _ => exact False.elim hg
    | _ => exact False.elim (by cases e <;> exact hg)
  | d :: d2 :: d3 :: r, _, hg => exact False.elim (by cases d <;> cases d2 <;> exact hg)
end
end DL
/-! D layer, part 5: subscripts, slices, statements, targets, loops, comprehensions. -/
namespace DL
open PySem PySem.Spec PyProof.Rows L2

/-! ### subscripts -/
def fIx : G2
  | .str x, .int i, S, Q => x.length ≤ 16777216 ∧ (match atI x.cps.toList i with
    | some c => Q (.str ⟨#[c]⟩) S
    | none => False)
  | d, .int i, S, Q => (match seqD S d with
    | some ds => (match atI ds i with
      | some e => Q e S
      | none => False)
    | none => False)
  | _, _, _, _ => False
theorem ixN_lt {n : Nat} {i : Int} {j : Nat} (h : ixN n i = some j) : j < n := (ixN_seq h).2.1
theorem RVs.atI {K : PySem.W.Frag} {Γ : AG} {ds : List DV} {vs : List V} {i : Int} {d : DV} (r : RVs K Γ ds vs) (e : L2.atI ds i = some d) : ∃ v, L2.atI vs i = some v ∧ RV K Γ d v := by
  unfold L2.atI at e ⊢
  rw [← r.length]
  cases h : ixN ds.length i with
  | none =>
    rw [h] at e
    cases e
  | some j =>
    rw [h] at e
    exact r.get e
abbrev MP := DEnv → Store → MK (Option Int) → MX → Prop
def DP (X : Cx) (W : WX) (o : Option Expr) (m : MP) : Prop := PO X o (tG (fun _ (a b : Option Int) => a = b) X.K W m)
def mPN : MP := fun _ S Q _ => Q none S
def mPS (a : ME) : MP := fun δ S Q E => a δ S (fun x S1 => match x with
  | .int i => Q (some i) S1
  | _ => False) E
/-- the items of a slice -/
def cutD (xs : List DV) (lo hi : Option Int) : List DV := (xs.drop (HT.sIx xs.length 0 lo)).take (HT.sIx xs.length xs.length hi - HT.sIx xs.length 0 lo)
abbrev GS := DV → Option Int → Option Int → Store → MK DV → Prop
def fSl : GS
  | .tup ds, lo, hi, S, Q => Q (.tup (cutD ds lo hi)) S
  | .lst ds, lo, hi, S, Q => Q (.lst (cutD ds lo hi)) S
  | .frz ds, lo, hi, S, Q => Q (.lst (cutD ds lo hi)) S
  | _, _, _, _, _ => False
def mSl (g : GS) (a : ME) (l h : MP) : ME := fun δ S Q E => a δ S (fun x S1 => l δ S1 (fun lo S2 => h δ S2 (fun hi S3 => g x lo hi S3 Q) E) E) E
def fRev : G1
  | .tup ds, S, Q => Q (.tup ds.reverse) S
  | .lst ds, S, Q => Q (.lst ds.reverse) S
  | _, _, _ => False
theorem RVs.cut {K : PySem.W.Frag} {Γ : AG} {ds : List DV} {vs : List V} (r : RVs K Γ ds vs) (lo hi : Option Int) : RVs K Γ (cutD ds lo hi) (cutV vs lo hi) := by
  unfold cutD cutV
  rw [← r.length]
  exact (r.drop _).take _
section
variable {X : Cx} {W : WX} {a b e : Expr} {ma mb : ME} {ml mh : MP} {lo hi : Option Expr} {pos p2 : Pos}
theorem ixd_seq : IxR X (tO2 X.K fIx) := by
  intro value slice pins s σ H x y v u Q I rx ry h hs
  obtain ⟨Γ, S, dx, dy, Qd, R, r1, r2, hg, kq⟩ := h
  have gen : ∀ i, dy = .int i → (match seqD S dx with
    | some ds => (match atI ds i with
      | some e => Qd e S
      | none => False)
    | none => False) → wpAny (model X.prog X.w) X.A (subscriptTail value slice v u) (EP X pins σ Q) X.xe s := by
    intro i ey q
    subst ey
    cases r2.int
    cases e : seqD S dx with
    | none =>
      rw [e] at q
      exact q.elim
    | some ds =>
      rw [e] at q
      have q1 : (match atI ds i with
        | some e => Qd e S
        | none => False) := q
      cases e2 : atI ds i with
      | none =>
        rw [e2] at q1
        exact q1.elim
      | some d =>
        rw [e2] at q1
        obtain ⟨p, vs, rfl, h1, h2, _, _⟩ := seqD_of R r1 e
        obtain ⟨w, g1, g2⟩ := h2.atI e2
        rcases h1 with h1 | h1
        · exact ix_list value slice pins s σ H _ _ v u Q I rx ry ⟨p, vs, i, w, rfl, rfl, h1, g1, kq.here R g2 q1⟩ hs
        · exact ix_tup value slice pins s σ H _ _ v u Q I rx ry ⟨p, vs, i, w, rfl, rfl, h1, g1, kq.here R g2 q1⟩ hs
  cases dy with
  | int i =>
    cases dx with
    | str z =>
      obtain ⟨hz, q⟩ := hg
      cases (show x = .str z from r1)
      cases r2.int
      have q1 : (match atI z.cps.toList i with
        | some c => Qd (.str ⟨#[c]⟩) S
        | none => False) := q
      cases e2 : atI z.cps.toList i with
      | none =>
        rw [e2] at q1
        exact q1.elim
      | some c =>
        rw [e2] at q1
        exact ix_str value slice pins s σ H _ _ v u Q I rx ry ⟨z, i, c, rfl, rfl, line_le hz, e2, kq.here (d := .str ⟨#[c]⟩) R rfl q1⟩ hs
    | _ => exact gen i rfl hg
  | _ => cases dx <;> exact False.elim hg
theorem d_ix (ha : DE X W a ma) (hb : DE X W b mb) (hs : PlainIx b := by exact fun _ _ => rfl) : DE X W (.Subscript a b pos) (mOp fIx ma mb) :=
  PE.imp (pe_ix ixd_seq ha hb hs) fun σ H Q ⟨Γ, S, δ, Qd, Ed, c, m, kq, ke⟩ =>
    ⟨Γ, S, δ, _, Ed, c, m, fun Γ1 S1 H1 d1 v1 e1 R1 r1 q1 => ⟨Γ1, S1, δ, _, Ed, c.mk' R1 e1, q1, fun Γ2 S2 H2 d2 v2 e2 R2 r2 q2 =>
      ⟨Γ2, S2, d1, d2, Qd, R2, RV.mono e2 _ _ r1, r2, q2, kq.mono (e1.trans e2)⟩, ke.mono e1⟩, ke⟩
theorem PO.imp {o : Option Expr} {t t' : TO} (h : PO X o t) (i : ∀ σ H Q, t' σ H Q → t σ H Q) : PO X o t' := ⟨fun pins s σ H Q I q => h.run pins s σ H Q I (i σ H Q q)⟩
theorem d_pn : DP X W none mPN := PO.imp po_none fun σ H Q ⟨Γ, S, δ, Qd, Ed, c, m, kq, ke⟩ => kq Γ S H none none (Ext.refl Γ) c.rs rfl m
theorem d_ps (ha : DE X W a ma) : DP X W (some a) (mPS ma) := PO.imp (po_some ha) fun σ H Q ⟨Γ, S, δ, Qd, Ed, c, m, kq, ke⟩ =>
  ⟨Γ, S, δ, _, Ed, c, m, fun Γ1 S1 H1 d1 v1 e1 R1 r1 q1 => by
    cases d1 with
    | int i => exact ⟨i, r1, kq Γ1 S1 H1 (some i) (some i) e1 R1 rfl q1⟩
    | _ => exact False.elim q1, ke⟩
def tSlD (K : PySem.W.Frag) (g : GS) : V → Option Int → Option Int → Hp → VK → Prop := fun x lo hi H Q => ∃ Γ S dx Qd, Rs K Γ S H ∧ RV K Γ dx x ∧ g dx lo hi S Qd ∧ KQ (RV K) K Γ Qd Q
theorem sld_seq : L2.SlR X (tSlD X.K fSl) := by
  intro pins s σ H x v vl vu lo hi sl Q I rx hs pl pu h
  obtain ⟨Γ, S, dx, Qd, R, r1, hg, kq⟩ := h
  cases dx with
  | tup ds =>
    obtain ⟨p, vs, rfl, h2, h3⟩ := R.tup r1
    refine sl_tupA pins s σ H _ v vl vu lo hi sl Q I rx hs pl pu ⟨p, vs, rfl, h2, fun hw => ?_, fun _ q hq => kq.newT R hq (h3.cut lo hi) hg⟩
    have e : cutD ds lo hi = ds := by
      unfold cutD
      rw [h3.length, hw.1, hw.2, List.drop_zero, Nat.sub_zero, ← h3.length, List.take_length]
    have hg' : Qd (.tup (cutD ds lo hi)) S := hg
    rw [e] at hg'
    exact kq.here (d := .tup ds) R r1 hg'
  | lst ds =>
    obtain ⟨p, vs, rfl, h2, h3⟩ := R.lst r1
    exact sl_list pins s σ H _ v vl vu lo hi sl Q I rx hs pl pu ⟨p, vs, rfl, SqL.of h2, fun q hq => kq.newL R hq (h3.cut lo hi) hg⟩
  | frz ds =>
    obtain ⟨p, vs, rfl, h2, h3⟩ := R.frz r1
    exact sl_list pins s σ H _ v vl vu lo hi sl Q I rx hs pl pu ⟨p, vs, rfl, h2, fun q hq => kq.newL R hq (h3.cut lo hi) hg⟩
  | _ => exact False.elim hg
theorem d_sl (ha : DE X W a ma) (hl : DP X W lo ml) (hh : DP X W hi mh) : DE X W (.Subscript a (.Slice lo hi none p2) pos) (mSl fSl ma ml mh) :=
  PE.imp (pe_slice sld_seq ha hl hh) fun σ H Q ⟨Γ, S, δ, Qd, Ed, c, m, kq, ke⟩ =>
    ⟨Γ, S, δ, _, Ed, c, m, fun Γ1 S1 H1 d1 v1 e1 R1 r1 q1 => ⟨Γ1, S1, δ, _, Ed, c.mk' R1 e1, q1, fun Γ2 S2 H2 d2 v2 e2 R2 r2 q2 =>
      ⟨Γ2, S2, δ, _, Ed, c.mk' R2 (e1.trans e2), q2, fun Γ3 S3 H3 d3 v3 e3 R3 r3 q3 => by
        cases (show d2 = v2 from r2)
        cases (show d3 = v3 from r3)
        exact ⟨Γ3, S3, d1, Qd, R3, RV.mono (e2.trans e3) _ _ r1, q3, kq.mono ((e1.trans e2).trans e3)⟩, ke.mono (e1.trans e2)⟩, ke.mono e1⟩, ke⟩
end

/-! ### targets -/
abbrev MG := DV → DEnv → Store → (DEnv → Store → Prop) → Prop
def tGD (K : PySem.W.Frag) (g : MG) : TG := fun v σ H Q => ∃ Γ S δ d Qd, Cf K Γ S H δ σ ∧ RV K Γ d v ∧ g d δ S Qd ∧ ∀ Γ' S' H' δ' σ', Ext Γ Γ' → Cf K Γ' S' H' δ' σ' → Qd δ' S' → Q σ' H'
def DG (X : Cx) (e : Expr) (g : MG) : Prop := PG X e (tGD X.K g)
/-- names, in tuples maybe -/
inductive Tg where
  | nm (i : Nat) | tp (ts : List Tg)
mutual
def bindT : Tg → DV → DEnv → Option DEnv
  | .nm i, d, δ => some (δ.set i (some d))
  | .tp ts, .tup ds, δ => bindTs ts ds δ
  | .tp _, _, _ => none
def bindTs : List Tg → List DV → DEnv → Option DEnv
  | [], [], δ => some δ
  | t :: ts, d :: ds, δ => (match bindT t d δ with
    | some δ1 => bindTs ts ds δ1
    | none => none)
  | _, _, _ => none
end
mutual
def namesT : Tg → List Nat
  | .nm i => [i]
  | .tp ts => namesTs ts
def namesTs : List Tg → List Nat
  | [] => []
  | t :: ts => namesT t ++ namesTs ts
end
mutual
def tgV (K : PySem.W.Frag) : Tg → TG
  | .nm i => gName i
  | .tp ts => gTup K ts.length (tgVs K ts)
def tgVs (K : PySem.W.Frag) : List Tg → TGs
  | [] => gNil
  | t :: ts => gCons (tgV K t) (tgVs K ts)
end
def Agree (vs : List Nat) (σ σ' : L2.St) : Prop := σ'.length = σ.length ∧ ∀ i, i ∉ vs → σ'[i]? = σ[i]?
section
variable {K : PySem.W.Frag} {Γ : AG} {S : Store} {H : Hp}
mutual
theorem tgV_run : ∀ (t : Tg) (d : DV) (v : V) (δ δ' : DEnv) (σ : L2.St) (Q : L2.St → Hp → Prop), Cf K Γ S H δ σ → RV K Γ d v → bindT t d δ = some δ' → (∀ σ', Cf K Γ S H δ' σ' → Agree (namesT t) σ σ' → Q σ' H) → tgV K t v σ H Q
  | .nm i, d, v, δ, δ', σ, Q, c, r, e, q => by
    have e' : some (δ.set i (some d)) = some δ' := by simpa only [bindT] using e
    cases e'
    have h : Agree (namesT (.nm i)) σ (σ.set i (some v)) := by
      refine ⟨by rw [List.length_set], fun j hj => ?_⟩
      have hji : j ≠ i := by simpa [namesT] using hj
      rw [List.getElem?_set_ne (Ne.symm hji)]
    have g := q _ (c.set r) h
    simpa only [tgV, gName] using g
  | .tp ts, d, v, δ, δ', σ, Q, c, r, e, q => by
    cases d with
    | tup ds =>
      obtain ⟨p, vs, rfl, h2, h3⟩ := c.rs.tup r
      have e' : bindTs ts ds δ = some δ' := by simpa only [bindT] using e
      obtain ⟨hl, g⟩ := tgVs_run ts ds vs δ δ' σ Q c h3 e' (fun σ' c' a => q σ' c' (by simpa only [namesT] using a))
      have : gTup K ts.length (tgVs K ts) (.ref p) σ H Q := ⟨p, vs, rfl, h2, by rw [← hl, h3.length], g⟩
      simpa only [tgV] using this
    | _ => exact absurd e (by simp [bindT])
theorem tgVs_run : ∀ (ts : List Tg) (ds : List DV) (vs : List V) (δ δ' : DEnv) (σ : L2.St) (Q : L2.St → Hp → Prop), Cf K Γ S H δ σ → RVs K Γ ds vs → bindTs ts ds δ = some δ' → (∀ σ', Cf K Γ S H δ' σ' → Agree (namesTs ts) σ σ' → Q σ' H) → ds.length = ts.length ∧ tgVs K ts vs σ H Q
  | [], ds, vs, δ, δ', σ, Q, c, r, e, q => by
    cases ds with
    | nil =>
      have e' : some δ = some δ' := by simpa only [bindTs] using e
      cases e'
      refine ⟨rfl, ?_⟩
      have : gNil vs σ H Q := ⟨r, q σ c ⟨rfl, fun _ _ => rfl⟩⟩
      simpa only [tgVs] using this
    | cons a b => exact absurd e (by simp [bindTs])
  | t :: ts, ds, vs, δ, δ', σ, Q, c, r, e, q => by
    cases ds with
    | nil => exact absurd e (by simp [bindTs])
    | cons d ds =>
      obtain ⟨v, us, rfl, h1, h2⟩ := r
      have e' : (match bindT t d δ with
        | some δ1 => bindTs ts ds δ1
        | none => none) = some δ' := by simpa only [bindTs] using e
      cases h : bindT t d δ with
      | none =>
        rw [h] at e'
        cases e'
      | some δ1 =>
        rw [h] at e'
        have hl : ds.length = ts.length ∧ True := ⟨(len_bind ts ds δ1 δ' e'), trivial⟩
        refine ⟨by rw [List.length_cons, List.length_cons, hl.1], ?_⟩
        have : gCons (tgV K t) (tgVs K ts) (v :: us) σ H Q := by
          refine ⟨v, us, rfl, ?_⟩
          refine tgV_run t d v δ δ1 σ _ c h1 h fun σ1 c1 a1 => ?_
          refine (tgVs_run ts ds us δ1 δ' σ1 Q c1 h2 e' fun σ2 c2 a2 => ?_).2
          refine q σ2 c2 ⟨a2.1.trans a1.1, fun i hi => ?_⟩
          have hi' : i ∉ namesT t ++ namesTs ts := by simpa only [namesTs] using hi
          rw [a2.2 i (fun z => hi' (List.mem_append_right _ z)), a1.2 i (fun z => hi' (List.mem_append_left _ z))]
        simpa only [tgVs] using this
theorem len_bind : ∀ (ts : List Tg) (ds : List DV) (δ δ' : DEnv), bindTs ts ds δ = some δ' → ds.length = ts.length
  | [], [], _, _, _ => rfl
  | [], _ :: _, _, _, e => absurd e (by simp [bindTs])
  | _ :: _, [], _, _, e => absurd e (by simp [bindTs])
  | t :: ts, d :: ds, δ, δ', e => by
    have e' : (match bindT t d δ with
      | some δ1 => bindTs ts ds δ1
      | none => none) = some δ' := by simpa only [bindTs] using e
    cases h : bindT t d δ with
    | none =>
      rw [h] at e'
      cases e'
    | some δ1 =>
      rw [h] at e'
      rw [List.length_cons, List.length_cons, len_bind ts ds δ1 δ' e']
end
end
/-- the target's own judgement -/
def DTg (X : Cx) (e : Expr) (t : Tg) : Prop := PG X e (tgV X.K t)
def DTgs (X : Cx) (es : List Expr) (ts : List Tg) : Prop := PGs X es (tgVs X.K ts)
def gTg (t : Tg) : MG := fun d δ S Q => match bindT t d δ with
  | some δ' => Q δ' S
  | none => False
/-- a list (of the store, or unchanging) into names -/
def gUn (ts : List Tg) : MG := fun d δ S Q => match seqD S d with
  | some ds => (match bindTs ts ds δ with
    | some δ' => Q δ' S
    | none => False)
  | none => False
section
variable {X : Cx} {e : Expr} {es : List Expr} {t : Tg} {ts : List Tg} {pos : Pos}
theorem dg_nm {i : Nat} {x : Str} (hN : X.N.Nodup) (hi : X.N[i]? = some x := by rfl) (hx : Loc X.env.scope x := by first | exact Or.inl rfl | exact Or.inr rfl) (hf : X.fn x = true ∨ X.env.scope.names.lookup x = some .local := by first | exact .inl rfl | exact .inr rfl | assumption) : DTg X (.Name x pos) (.nm i) := by
  have h := pg_name (pos := pos) hN hi hx hf
  simpa only [DTg, tgV] using h
theorem dg_nil : DTgs X [] [] := by
  have h : PGs X [] gNil := pgs_nil
  simpa only [DTgs, tgVs] using h
theorem dg_cons (h1 : DTg X e t) (h2 : DTgs X es ts) (hs : (assignEach (e :: es) X.env).map (·.2) = assign e X.env :: (assignEach es X.env).map (·.2) := by rfl) : DTgs X (e :: es) (t :: ts) := by
  have h := pgs_cons (show PG X e (tgV X.K t) from h1) (show PGs X es (tgVs X.K ts) from h2) hs
  simpa only [DTgs, tgVs] using h
theorem dg_tp {k : Nat} (hc : X.calm = true) (h : DTgs X es ts) (hn : (assignEach es X.env).length = ts.length := by rfl) (hst : (assignEach es X.env).findIdx? (·.1) = none := by rfl) : DTg X (.Tuple es k pos) (.tp ts) := by
  have h2 := pg_tup (pos := pos) (k := k) hc (show PGs X es (tgVs X.K ts) from h) hn hst
  simpa only [DTg, tgV] using h2
theorem PG.imp {t t' : TG} (h : PG X e t) (i : ∀ v σ H Q, t' v σ H Q → t v σ H Q) : PG X e t' := ⟨fun pins s σ H v u Q I r q => h.run pins s σ H v u Q I r (i v σ H Q q)⟩
theorem dg_of (h : DTg X e t) : DG X e (gTg t) := PG.imp h fun v σ H Q ⟨Γ, S, δ, d, Qd, c, r, m, q⟩ => by
  have m' : (match bindT t d δ with
    | some δ' => Qd δ' S
    | none => False) := m
  cases e : bindT t d δ with
  | none =>
    rw [e] at m'
    exact m'.elim
  | some δ' =>
    rw [e] at m'
    exact tgV_run t d v δ δ' σ Q c r e fun σ' c' _ => q Γ S H δ' σ' (Ext.refl Γ) c' m'
theorem dg_un {k : Nat} (hc : X.calm = true) (h : DTgs X es ts) (hn : (assignEach es X.env).length = ts.length := by rfl) (hst : (assignEach es X.env).findIdx? (·.1) = none := by rfl) (hnt : ∀ cs : List DV, True := by intros; trivial) :
    DG X (.Tuple es k pos) (fun d δ S Q => (¬ ∃ cs, d = .tup cs) ∧ gUn ts d δ S Q) := PG.imp (pg_unl (pos := pos) (k := k) hc (show PGs X es (tgVs X.K ts) from h) hn hst) fun v σ H Q ⟨Γ, S, δ, d, Qd, c, r, ⟨nt, m⟩, q⟩ => by
  have m' : (match seqD S d with
    | some ds => (match bindTs ts ds δ with
      | some δ' => Qd δ' S
      | none => False)
    | none => False) := m
  cases e : seqD S d with
  | none =>
    rw [e] at m'
    exact m'.elim
  | some ds =>
    rw [e] at m'
    have m2 : (match bindTs ts ds δ with
      | some δ' => Qd δ' S
      | none => False) := m'
    cases e2 : bindTs ts ds δ with
    | none =>
      rw [e2] at m2
      exact m2.elim
    | some δ' =>
      rw [e2] at m2
      obtain ⟨p, vs, rfl, _, h2, _, h4⟩ := seqD_of c.rs r e
      obtain ⟨g1, g2⟩ := tgVs_run ts ds vs δ δ' σ Q c h2 e2 fun σ' c' _ => q Γ S H δ' σ' (Ext.refl Γ) c' m2
      exact ⟨p, vs, rfl, h4 nt, by rw [← h2.length, g1], g2⟩
end
end DL
/-! D layer, part 6: statements, loops, comprehensions. -/
namespace DL
open PySem PySem.Spec PyProof.Rows L2

def mNext : MS := fun D δ S => D.nx δ S
def mSeq (a b : MS) : MS := fun D δ S => a { D with nx := b D } δ S
def mExpr (a : ME) : MS := fun D δ S => a δ S (fun _ S1 => D.nx δ S1) (fun x S1 => D.ex x δ S1)
def mRet (a : ME) : MS := fun D δ S => a δ S D.rt (fun x S1 => D.ex x δ S1)
def mRetN : MS := fun D _ S => D.rt .non S
def mIfS (t : MT) (a b : MS) : MS := fun D δ S => t δ S (fun c S1 => match c with
  | true => a D δ S1
  | false => b D δ S1) (fun x S1 => D.ex x δ S1)
def mBreak : MS := fun D δ S => D.bk δ S
def mCont : MS := fun D δ S => D.ct δ S
def mSet (i : Nat) (a : ME) : MS := fun D δ S => a δ S (fun d S1 => D.nx (δ.set i (some d)) S1) (fun x S1 => D.ex x δ S1)
def mAsg (a : ME) (g : MG) : MS := fun D δ S => a δ S (fun d S1 => g d δ S1 D.nx) (fun x S1 => D.ex x δ S1)
/-- a, b = x, y and a, b, c = x, y, z of plain local names -/
def mPar2 (i j : Nat) (as : MA) : MS := fun D δ S => as δ S (fun ds S1 => match ds with
  | [d, e] => D.nx ((δ.set i (some d)).set j (some e)) S1
  | _ => False) (fun x S1 => D.ex x δ S1)
def mPar3 (i j l : Nat) (as : MA) : MS := fun D δ S => as δ S (fun ds S1 => match ds with
  | [d, e, f] => D.nx (((δ.set i (some d)).set j (some e)).set l (some f)) S1
  | _ => False) (fun x S1 => D.ex x δ S1)
def mWhile (c : MT) (b : MS) : MS := fun D δ S => ∃ W : Nat → DEnv → Store → Prop, (∃ m, W m δ S) ∧ ∀ m δ S, W m δ S →
  c δ S (fun k S1 => match k with
    | true => b { D with nx := fun δ' S' => ∃ m', m' < m ∧ W m' δ' S', ct := fun δ' S' => ∃ m', m' < m ∧ W m' δ' S', bk := D.nx } δ S1
    | false => D.nx δ S1) (fun x S1 => D.ex x δ S1)
/-! ### what is walked -/
abbrev MI := DEnv → Store → MK (List DV) → MX → Prop
/-- an iterator that gives just these items, whatever else happens -/
def ItD (K : PySem.W.Frag) (Γ : AG) (J : It) (xs : List DV) : Prop := ∀ Γ' S' H', Ext Γ ⟨Γ'.A, Γ'.G, Γ.F, Γ.T⟩ → Rs K Γ' S' H' → ∀ i, (xs.length ≤ i → J.stop i H') ∧
  ∀ d, xs[i]? = some d → J.go i H' ∧ ∀ v H'', J.yld i H' v H'' → ∃ Γ'', Ext Γ' Γ'' ∧ Rs K Γ'' S' H'' ∧ RV K Γ'' d v
def tID (K : PySem.W.Frag) (W : WX) (m : MI) : TI := fun σ H R => ∃ Γ S δ Qd Ed, Cf K Γ S H δ σ ∧ m δ S Qd Ed ∧ (∀ Γ' S' H' xs J, Ext Γ Γ' → Rs K Γ' S' H' → ItD K Γ' J xs → Qd xs S' → R J H') ∧ KE K W Γ σ Ed
def DI (X : Cx) (W : WX) (tg iter : Expr) (m : MI) : Prop := PI X tg iter (tID X.K W m)
theorem PI.imp {X : Cx} {tg iter : Expr} {t t' : TI} (h : PI X tg iter t) (i : ∀ σ H R, t' σ H R → t σ H R) : PI X tg iter t' := ⟨fun pins s σ H R I q => h.run pins s σ H R I (i σ H R q)⟩
/-- over a tuple; over an unchanging list -/
def iT (a : ME) : MI := fun δ S Q E => a δ S (fun d S1 => match d with
  | .tup ds => Q ds S1
  | _ => False) E
def iL (a : ME) : MI := fun δ S Q E => a δ S (fun d S1 => match d with
  | .lst ds => Q ds S1
  | .frz ds => Q ds S1
  | _ => False) E
def rngD (lo : Int) : Nat → List DV
  | 0 => []
  | n + 1 => .int lo :: rngD (lo + 1) n
theorem rngD_len : ∀ (lo : Int) (n : Nat), (rngD lo n).length = n
  | _, 0 => rfl
  | lo, n + 1 => by rw [rngD, List.length_cons, rngD_len]
theorem rngD_get : ∀ (lo : Int) (n i : Nat), i < n → (rngD lo n)[i]? = some (.int (lo + i))
  | lo, 0, i, h => absurd h (Nat.not_lt_zero _)
  | lo, n + 1, 0, h => by simp [rngD]
  | lo, n + 1, i + 1, h => by
    rw [rngD, List.getElem?_cons_succ, rngD_get (lo + 1) n i (by omega)]
    congr 2
    omega
def iR1 (as : MA) : MI := fun δ S Q E => as δ S (fun ds S1 => match ds with
  | [.int j] => -(2 ^ 62) ≤ j ∧ j < 2 ^ 62 ∧ Q (rngD 0 j.toNat) S1
  | _ => False) E
def iR2 (as : MA) : MI := fun δ S Q E => as δ S (fun ds S1 => match ds with
  | [.int i, .int j] => (-(2 ^ 62) ≤ i ∧ i < 2 ^ 62 ∧ -(2 ^ 62) ≤ j ∧ j < 2 ^ 62) ∧ Q (rngD i (j - i).toNat) S1
  | _ => False) E
def pairs : List DV → List DV → List DV
  | x :: xs, y :: ys => .tup [x, y] :: pairs xs ys
  | _, _ => []
theorem pairs_len : ∀ xs ys : List DV, (pairs xs ys).length = min xs.length ys.length
  | [], ys => by simp [pairs]
  | x :: xs, [] => by simp [pairs]
  | x :: xs, y :: ys => by
    rw [pairs, List.length_cons, pairs_len, List.length_cons, List.length_cons]
    omega
theorem pairs_get : ∀ (xs ys : List DV) (i : Nat) (d : DV), (pairs xs ys)[i]? = some d → ∃ x y, xs[i]? = some x ∧ ys[i]? = some y ∧ d = .tup [x, y]
  | [], ys, i, d, h => by simp [pairs] at h
  | x :: xs, [], i, d, h => by simp [pairs] at h
  | x :: xs, y :: ys, 0, d, h => by
    rw [pairs] at h
    exact ⟨x, y, rfl, rfl, by simpa using h.symm⟩
  | x :: xs, y :: ys, i + 1, d, h => by
    rw [pairs, List.getElem?_cons_succ] at h
    obtain ⟨a, b, h1, h2, h3⟩ := pairs_get xs ys i d h
    exact ⟨a, b, by simpa using h1, by simpa using h2, h3⟩
/-- zip of two tuples, of two unchanging lists -/
def iZ (as : MA) : MI := fun δ S Q E => as δ S (fun ds S1 => match ds with
  | [.tup xs, .tup ys] => Q (pairs xs ys) S1
  | [.lst xs, .lst ys] => Q (pairs xs ys) S1
  | _ => False) E
def enum : Nat → List DV → List DV
  | _, [] => []
  | n, x :: xs => .tup [.int (n : Int), x] :: enum (n + 1) xs
theorem enum_len : ∀ (n : Nat) (xs : List DV), (enum n xs).length = xs.length
  | _, [] => rfl
  | n, x :: xs => by rw [enum, List.length_cons, enum_len, List.length_cons]
theorem enum_get : ∀ (n : Nat) (xs : List DV) (i : Nat) (d : DV), (enum n xs)[i]? = some d → ∃ x, xs[i]? = some x ∧ d = .tup [.int ((n + i : Nat) : Int), x]
  | n, [], i, d, h => by simp [enum] at h
  | n, x :: xs, 0, d, h => by
    rw [enum] at h
    exact ⟨x, rfl, by simpa using h.symm⟩
  | n, x :: xs, i + 1, d, h => by
    rw [enum, List.getElem?_cons_succ] at h
    obtain ⟨a, h1, h2⟩ := enum_get (n + 1) xs i d h
    exact ⟨a, by simpa using h1, by rw [h2]; congr 4; omega⟩
def iE (as : MA) : MI := fun δ S Q E => as δ S (fun ds S1 => match ds with
  | [.tup xs] => Q (enum 0 xs) S1
  | [.lst xs] => Q (enum 0 xs) S1
  | _ => False) E

theorem inv_int1 {ds : List DV} {P : Int → Prop} (h : (match ds with
  | [.int j] => P j
  | _ => False)) : ∃ j, ds = [.int j] ∧ P j := by
  cases ds with
  | nil => exact h.elim
  | cons d r =>
    cases r with
    | nil => cases d <;> first | exact ⟨_, rfl, h⟩ | exact False.elim h
    | cons d2 r => cases d <;> exact False.elim h
theorem inv_int2 {ds : List DV} {P : Int → Int → Prop} (h : (match ds with
  | [.int i, .int j] => P i j
  | _ => False)) : ∃ i j, ds = [.int i, .int j] ∧ P i j := by
  cases ds with
  | nil => exact h.elim
  | cons d r =>
    cases r with
    | nil => cases d <;> exact False.elim h
    | cons d2 r =>
      cases r with
      | nil => cases d <;> first | (cases d2 <;> first | exact ⟨_, _, rfl, h⟩ | exact False.elim h) | exact False.elim h
      | cons d3 r => cases d <;> first | exact False.elim h | (cases d2 <;> exact False.elim h)
theorem inv_two {ds : List DV} {P : DV → DV → Prop} (h : (match ds with
  | [d, e] => P d e
  | _ => False)) : ∃ d e, ds = [d, e] ∧ P d e := by
  cases ds with
  | nil => exact h.elim
  | cons d r =>
    cases r with
    | nil => exact False.elim h
    | cons d2 r =>
      cases r with
      | nil => exact ⟨_, _, rfl, h⟩
      | cons d3 r => exact False.elim h
theorem inv_three {ds : List DV} {P : DV → DV → DV → Prop} (h : (match ds with
  | [d, e, f] => P d e f
  | _ => False)) : ∃ d e f, ds = [d, e, f] ∧ P d e f := by
  cases ds with
  | nil => exact h.elim
  | cons d r =>
    cases r with
    | nil => exact False.elim h
    | cons d2 r =>
      cases r with
      | nil => exact False.elim h
      | cons d3 r =>
        cases r with
        | nil => exact ⟨_, _, _, rfl, h⟩
        | cons d4 r => exact False.elim h
theorem inv_zip {ds : List DV} {P : List DV → List DV → Prop} (h : (match ds with
  | [.tup xs, .tup ys] => P xs ys
  | [.lst xs, .lst ys] => P xs ys
  | _ => False)) : ∃ xs ys, (ds = [.tup xs, .tup ys] ∨ ds = [.lst xs, .lst ys]) ∧ P xs ys := by
  cases ds with
  | nil => exact h.elim
  | cons d r =>
    cases r with
    | nil => cases d <;> exact False.elim h
    | cons d2 r =>
      cases r with
      | nil => cases d <;> first | (cases d2 <;> first | exact ⟨_, _, .inl rfl, h⟩ | exact ⟨_, _, .inr rfl, h⟩ | exact False.elim h) | exact False.elim h
      | cons d3 r => cases d <;> first | exact False.elim h | (cases d2 <;> exact False.elim h)

section
variable {X : Cx} {W : WX} {e tg iter : Expr} {es : List Expr} {me : ME} {mas : MA} {pos p tpos : Pos} {elts : List Expr} {kk : Nat}
theorem itd_tup {K : PySem.W.Frag} {Γ : AG} {p : Addr} {vs : List V} {ds : List DV} (h1 : SqT K Γ.G p vs) (h2 : RVs K Γ ds vs) : ItD K Γ (Itt K p) ds := fun Γ' S' H' E R i => by
  have hq : SqT K H' p vs := sqT_sub R.sub (sqT_sub E.sub h1)
  refine ⟨fun hi => ⟨vs, hq, by rw [← h2.length]; exact hi⟩, fun d e => ?_⟩
  obtain ⟨v, g1, g2⟩ := h2.get e
  refine ⟨⟨vs, v, hq, g1⟩, fun w H'' y => ?_⟩
  obtain ⟨e1, y⟩ := y
  subst e1
  have e2 := y vs hq
  rw [g1] at e2
  cases e2
  exact ⟨Γ', Ext.refl _, R, RV.mono E _ _ g2⟩
theorem itd_lst {K : PySem.W.Frag} {Γ : AG} {p : Addr} {vs : List V} {ds : List DV} (h1 : SqL K Γ.G p vs) (h2 : RVs K Γ ds vs) : ItD K Γ (Itl K p) ds := fun Γ' S' H' E R i => by
  have hq : SqL K H' p vs := sqL_sub R.sub (sqL_sub E.sub h1)
  refine ⟨fun hi => ⟨vs, hq, by rw [← h2.length]; exact hi⟩, fun d e => ?_⟩
  obtain ⟨v, g1, g2⟩ := h2.get e
  refine ⟨⟨vs, v, hq, g1⟩, fun w H'' y => ?_⟩
  obtain ⟨e1, y⟩ := y
  subst e1
  have e2 := y vs hq
  rw [g1] at e2
  cases e2
  exact ⟨Γ', Ext.refl _, R, RV.mono E _ _ g2⟩
theorem itd_rng {K : PySem.W.Frag} {Γ : AG} {lo : Int} {n : Nat} : ItD K Γ (Itr lo n) (rngD lo n) := fun Γ' S' H' E R i => by
  refine ⟨fun hi => by rw [rngD_len] at hi; exact hi, fun d e => ?_⟩
  have hi : i < n := by
    have := (List.getElem?_eq_some_iff.mp e).1
    rw [rngD_len] at this
    exact this
  rw [rngD_get lo n i hi] at e
  cases e
  refine ⟨hi, fun v H'' y => ?_⟩
  obtain ⟨e1, e2⟩ := y
  subst e1 e2
  exact ⟨Γ', Ext.refl _, R, rfl⟩
/-- an item that is a new pair -/
theorem itd_pair {K : PySem.W.Frag} {Γ : AG} {S : Store} {H : Hp} (R : Rs K Γ S H) {T : Addr} {x y : V} {a b : DV} (hT : H T = none) (ra : RV K Γ a x) (rb : RV K Γ b y) : ∃ Γ'', Ext Γ Γ'' ∧ Rs K Γ'' S (upd H T (.tup [x, y])) ∧ RV K Γ'' (.tup [a, b]) (.ref T) :=
  ⟨_, R.ext hT _, R.laid hT _, T, [x, y], rfl, .inl (.inl upd_same), x, [y], rfl, RV.mono (R.ext hT _) _ _ ra, y, [], rfl, RV.mono (R.ext hT _) _ _ rb, rfl⟩
theorem itd_zipT {K : PySem.W.Frag} {Γ : AG} {p q : Addr} {vs us : List V} {ds es : List DV} (h1 : SqT K Γ.G p vs) (h2 : RVs K Γ ds vs) (g1 : SqT K Γ.G q us) (g2 : RVs K Γ es us) : ItD K Γ (RZ.ItzT K p q) (pairs ds es) := fun Γ' S' H' E R i => by
  have hq : SqT K H' p vs := sqT_sub R.sub (sqT_sub E.sub h1)
  have gq : SqT K H' q us := sqT_sub R.sub (sqT_sub E.sub g1)
  refine ⟨fun hi => ⟨vs, us, hq, gq, ?_⟩, fun d e => ?_⟩
  · rw [pairs_len] at hi
    rw [← h2.length, ← g2.length]
    omega
  · obtain ⟨x, y, ex, ey, rfl⟩ := pairs_get ds es i d e
    obtain ⟨v, k1, k2⟩ := h2.get ex
    obtain ⟨w, l1, l2⟩ := g2.get ey
    refine ⟨⟨vs, us, v, w, hq, gq, k1, l1⟩, fun z H'' yl => ?_⟩
    obtain ⟨T, x', y', rfl, hT, rfl, y1, y2⟩ := yl
    have e1 := y1 vs hq
    have e2 := y2 us gq
    rw [k1] at e1
    rw [l1] at e2
    cases e1
    cases e2
    exact itd_pair R hT (RV.mono E _ _ k2) (RV.mono E _ _ l2)
theorem itd_zipL {K : PySem.W.Frag} {Γ : AG} {p q : Addr} {vs us : List V} {ds es : List DV} (h1 : SqL K Γ.G p vs) (h2 : RVs K Γ ds vs) (g1 : SqL K Γ.G q us) (g2 : RVs K Γ es us) : ItD K Γ (Itz K p q) (pairs ds es) := fun Γ' S' H' E R i => by
  have hq : SqL K H' p vs := sqL_sub R.sub (sqL_sub E.sub h1)
  have gq : SqL K H' q us := sqL_sub R.sub (sqL_sub E.sub g1)
  refine ⟨fun hi => ⟨vs, us, hq, gq, ?_⟩, fun d e => ?_⟩
  · rw [pairs_len] at hi
    rw [← h2.length, ← g2.length]
    omega
  · obtain ⟨x, y, ex, ey, rfl⟩ := pairs_get ds es i d e
    obtain ⟨v, k1, k2⟩ := h2.get ex
    obtain ⟨w, l1, l2⟩ := g2.get ey
    refine ⟨⟨vs, us, v, w, hq, gq, k1, l1⟩, fun z H'' yl => ?_⟩
    obtain ⟨T, x', y', rfl, hT, rfl, y1, y2⟩ := yl
    have e1 := y1 vs hq
    have e2 := y2 us gq
    rw [k1] at e1
    rw [l1] at e2
    cases e1
    cases e2
    exact itd_pair R hT (RV.mono E _ _ k2) (RV.mono E _ _ l2)
theorem itd_enumL {K : PySem.W.Frag} {Γ : AG} {p : Addr} {vs : List V} {ds : List DV} (h1 : SqL K Γ.G p vs) (h2 : RVs K Γ ds vs) : ItD K Γ (Ite K p) (enum 0 ds) := fun Γ' S' H' E R i => by
  have hq : SqL K H' p vs := sqL_sub R.sub (sqL_sub E.sub h1)
  refine ⟨fun hi => ⟨vs, hq, by rw [enum_len] at hi; rw [← h2.length]; exact hi⟩, fun d e => ?_⟩
  obtain ⟨x, ex, rfl⟩ := enum_get 0 ds i d e
  obtain ⟨v, k1, k2⟩ := h2.get ex
  refine ⟨⟨vs, v, hq, k1⟩, fun z H'' yl => ?_⟩
  obtain ⟨T, x', rfl, hT, rfl, y1⟩ := yl
  have e1 := y1 vs hq
  rw [k1] at e1
  cases e1
  refine itd_pair R hT ?_ (RV.mono E _ _ k2)
  show V.int ((i : Nat) : Int) = V.int ((0 + i : Nat) : Int)
  rw [Nat.zero_add]
theorem di_tup (he : DE X W e me) : DI X W tg e (iT me) := PI.imp (pi_tup he) fun σ H R ⟨Γ, S, δ, Qd, Ed, c, m, kq, ke⟩ => ⟨Γ, S, δ, _, Ed, c, m, fun Γ1 S1 H1 d1 v1 e1 R1 r1 q1 => by
  cases d1 with
  | tup ds =>
    obtain ⟨p, vs, rfl, h2, h3⟩ := r1
    exact ⟨p, rfl, ⟨vs, sqT_sub R1.sub h2⟩, kq Γ1 S1 H1 ds _ e1 R1 (itd_tup h2 h3) q1⟩
  | _ => exact False.elim q1, ke⟩
theorem di_lst (he : DE X W e me) : DI X W tg e (iL me) := PI.imp (pi_list he) fun σ H R ⟨Γ, S, δ, Qd, Ed, c, m, kq, ke⟩ => ⟨Γ, S, δ, _, Ed, c, m, fun Γ1 S1 H1 d1 v1 e1 R1 r1 q1 => by
  cases d1 with
  | lst ds =>
    obtain ⟨p, vs, rfl, h2, h3⟩ := r1
    exact ⟨p, rfl, ⟨vs, SqL.of (R1.sub _ _ h2)⟩, kq Γ1 S1 H1 ds _ e1 R1 (itd_lst (SqL.of h2) h3) q1⟩
  | frz ds =>
    obtain ⟨p, vs, rfl, h2, h3⟩ := r1
    exact ⟨p, rfl, ⟨vs, sqL_sub R1.sub h2⟩, kq Γ1 S1 H1 ds _ e1 R1 (itd_lst h2 h3) q1⟩
  | _ => exact False.elim q1, ke⟩
theorem di_r1 (hg : Gl X "range") (hm : X.mg "range" = none) (ha : DA X W [e] mas) (hs : starEach [e] X.env = [(false, eval e X.env)] := by rfl) : DI X W tg (.Call (.Name "range" p) [e] [] pos) (iR1 mas) :=
  PI.imp (pi_range1 hg hm ha hs) fun σ H R ⟨Γ, S, δ, Qd, Ed, c, m, kq, ke⟩ => ⟨Γ, S, δ, _, Ed, c, m, fun Γ1 S1 H1 ds vs e1 R1 r1 q1 => by
    obtain ⟨j, rfl, h1, h2, q1⟩ := inv_int1 q1
    obtain ⟨v, rfl, r⟩ := r1.one
    cases r.int
    exact ⟨j, rfl, h1, h2, kq Γ1 S1 H1 _ _ e1 R1 itd_rng q1⟩, ke⟩
theorem di_r2 {e2 : Expr} (hg : Gl X "range") (hm : X.mg "range" = none) (ha : DA X W [e, e2] mas) (hs : starEach [e, e2] X.env = [(false, eval e X.env), (false, eval e2 X.env)] := by rfl) (hs2 : starEach [e2] X.env = [(false, eval e2 X.env)] := by rfl) :
    DI X W tg (.Call (.Name "range" p) [e, e2] [] pos) (iR2 mas) :=
  PI.imp (pi_range2 hg hm ha hs hs2) fun σ H R ⟨Γ, S, δ, Qd, Ed, c, m, kq, ke⟩ => ⟨Γ, S, δ, _, Ed, c, m, fun Γ1 S1 H1 ds vs e1 R1 r1 q1 => by
    obtain ⟨i, j, rfl, h1, q1⟩ := inv_int2 q1
    obtain ⟨v, w, rfl, r, r'⟩ := r1.two
    cases r.int
    cases r'.int
    exact ⟨i, j, rfl, h1, kq Γ1 S1 H1 _ _ e1 R1 itd_rng q1⟩, ke⟩
theorem di_z {e2 : Expr} (hg : Gl X "zip") (hm : X.mg "zip" = none) (ha : DA X W [e, e2] mas) (hs : starEach [e, e2] X.env = (false, eval e X.env) :: starEach [e2] X.env := by rfl) (hpl : (backTo pos (starEach [e2] X.env)).any (·.1) = false := by rfl) :
    DI X W (.Tuple elts kk tpos) (.Call (.Name "zip" p) [e, e2] [] pos) (iZ mas) :=
  PI.imp (RZ.pi_zipA hg hm ha hs hpl) fun σ H R ⟨Γ, S, δ, Qd, Ed, c, m, kq, ke⟩ => ⟨Γ, S, δ, _, Ed, c, m, fun Γ1 S1 H1 ds vs e1 R1 r1 q1 => by
    obtain ⟨xs, ys, rfl | rfl, q1⟩ := inv_zip q1
    · obtain ⟨v, w, rfl, ⟨a, as, rfl, h1, h2⟩, ⟨b, bs, rfl, g1, g2⟩⟩ := r1.two
      exact ⟨a, b, as, bs, rfl, .inr ⟨sqT_sub R1.sub h1, sqT_sub R1.sub g1, kq Γ1 S1 H1 _ _ e1 R1 (itd_zipT h1 h2 g1 g2) q1⟩⟩
    · obtain ⟨v, w, rfl, ⟨a, as, rfl, h1, h2⟩, ⟨b, bs, rfl, g1, g2⟩⟩ := r1.two
      exact ⟨a, b, as, bs, rfl, .inl ⟨SqL.of (R1.sub _ _ h1), SqL.of (R1.sub _ _ g1), kq Γ1 S1 H1 _ _ e1 R1 (itd_zipL (SqL.of h1) h2 (SqL.of g1) g2) q1⟩⟩, ke⟩

/-! ### statements -/
variable {a b c : List Stmt} {st : Stmt} {ma mb : MS} {mt : MT}
theorem d_bnil : DB X W [] mNext := PSs.imp pss_nil fun D σ H ⟨Γ, S, δ, Dd, c, m, er⟩ => er.nx Γ S H δ σ (Ext.refl Γ) c m
theorem ER.next {K : PySem.W.Frag} {Γ : AG} {Dd : EndsD} {D : Ends} (er : ER K W Γ Dd D) {mb : MS} : ER K W Γ { Dd with nx := mb Dd } { D with nx := tSD K W mb D } :=
  ⟨fun Γ' S' H' δ' σ' e c q => ⟨Γ', S', δ', Dd, c, q, er.mono e⟩, er.rt, er.bk, er.ct, er.ex⟩
theorem d_bcons (h1 : DS X W st ma) (h2 : DB X W b mb) : DB X W (st :: b) (mSeq ma mb) :=
  PSs.imp (pss_cons h1 h2) fun D σ H ⟨Γ, S, δ, Dd, c, m, er⟩ => ⟨Γ, S, δ, _, c, m, er.next⟩
theorem d_bone (h1 : DS X W st ma) : DB X W [st] ma := pss_one h1
theorem d_expr (he : DE X W e me) (hs : swapsWith e none pos.line X.env = pure false := by rfl) : DS X W (.Expr e pos) (mExpr me) :=
  PS.imp (ps_expr he hs) fun D σ H ⟨Γ, S, δ, Dd, c, m, er⟩ => ⟨Γ, S, δ, _, _, c, m, fun Γ1 S1 H1 d1 v1 e1 R1 r1 q1 => er.nx Γ1 S1 H1 δ σ e1 (c.mk' R1 e1) q1, er.ke c⟩
theorem d_ret (he : DE X W e me) : DS X W (.Return (some e) pos) (mRet me) :=
  PS.imp (ps_ret he) fun D σ H ⟨Γ, S, δ, Dd, c, m, er⟩ => ⟨Γ, S, δ, _, _, c, m, fun Γ1 S1 H1 d1 v1 e1 R1 r1 q1 => er.rt Γ1 S1 H1 d1 v1 e1 R1 r1 q1, er.ke c⟩
theorem d_retN : DS X W (.Return none pos) mRetN :=
  PS.imp ps_retN fun D σ H ⟨Γ, S, δ, Dd, c, m, er⟩ => er.rt Γ S H .non .non (Ext.refl Γ) c.rs rfl m
theorem d_pass : DS X W (.Pass pos) mNext := PS.imp ps_pass fun D σ H ⟨Γ, S, δ, Dd, c, m, er⟩ => er.nx Γ S H δ σ (Ext.refl Γ) c m
theorem d_break : DS X W (.Break pos) mBreak := PS.imp ps_break fun D σ H ⟨Γ, S, δ, Dd, c, m, er⟩ => er.bk Γ S H δ σ (Ext.refl Γ) c m
theorem d_cont : DS X W (.Continue pos) mCont := PS.imp ps_continue fun D σ H ⟨Γ, S, δ, Dd, c, m, er⟩ => er.ct Γ S H δ σ (Ext.refl Γ) c m
theorem d_if {t : Expr} (ht : DT X W t mt) (ha : DB X W a ma) (hb : DB X W b mb) : DS X W (.If t a b pos) (mIfS mt ma mb) :=
  PS.imp (ps_if ht ha hb) fun D σ H ⟨Γ, S, δ, Dd, c, m, er⟩ => ⟨Γ, S, δ, _, _, c, m, fun Γ1 S1 H1 d1 v1 e1 R1 r1 q1 => by
    cases (show d1 = v1 from r1)
    cases d1 with
    | true =>
      rw [if_pos rfl]
      exact ⟨Γ1, S1, δ, Dd, c.mk' R1 e1, q1, er.mono e1⟩
    | false =>
      rw [if_neg Bool.false_ne_true]
      exact ⟨Γ1, S1, δ, Dd, c.mk' R1 e1, q1, er.mono e1⟩, er.ke c⟩
theorem d_set {i : Nat} {x : Str} {pos' : Pos} (hN : X.N.Nodup) (he : DE X W e me) (hi : X.N[i]? = some x := by rfl) (hx : Loc X.env.scope x := by first | exact Or.inl rfl | exact Or.inr rfl) (hs : swapsWith e (some (.Name x pos')) pos.line X.env = pure false := by rfl)
    (hf : X.fn x = true ∨ X.env.scope.names.lookup x = some .local := by first | exact .inl rfl | exact .inr rfl | assumption) : DS X W (.Assign [.Name x pos'] e pos) (mSet i me) :=
  PS.imp (ps_set hN hi hx he hs hf) fun D σ H ⟨Γ, S, δ, Dd, c, m, er⟩ => ⟨Γ, S, δ, _, _, c, m, fun Γ1 S1 H1 d1 v1 e1 R1 r1 q1 => er.nx Γ1 S1 H1 _ _ e1 ((c.mk' R1 e1).set r1) q1, er.ke c⟩
theorem d_asg {g : MG} (he : DE X W e me) (hg : DG X tg g) (hs : swapsWithSole [tg] e pos.line X.env = pure false := by rfl) (hw : swappedStores [tg] e X.env = pure none := by rfl)
    (h1 : (assignEach [tg] X.env).map (·.2) = [assign tg X.env] := by rfl) : DS X W (.Assign [tg] e pos) (mAsg me g) :=
  PS.imp (ps_asg he hg hs hw h1) fun D σ H ⟨Γ, S, δ, Dd, c, m, er⟩ => ⟨Γ, S, δ, _, _, c, m, fun Γ1 S1 H1 d1 v1 e1 R1 r1 q1 => ⟨Γ1, S1, δ, d1, _, c.mk' R1 e1, r1, q1, fun Γ2 S2 H2 δ2 σ2 e2 c2 q2 => er.nx Γ2 S2 H2 δ2 σ2 (e1.trans e2) c2 q2⟩, er.ke c⟩
theorem d_par2 {i j : Nat} {x y : Str} {a b : Expr} {px py pt : Pos} {kt k2 pt2} (hc : X.calm = true) (hN : X.N.Nodup) (ha : DA X W [a, b] mas) (hi : X.N[i]? = some x := by rfl) (hj : X.N[j]? = some y := by rfl) (hij : i ≠ j := by decide)
    (hx : X.env.scope.names.lookup x = some .local := by rfl) (hy : X.env.scope.names.lookup y = some .local := by rfl)
    (hw : swappedStores [.Tuple [.Name x px, .Name y py] kt pt] (.Tuple [a, b] k2 pt2) X.env = pure (some [x, y]) := by rfl)
    (hs : swapsWithSole [.Tuple [.Name x px, .Name y py] kt pt] (.Tuple [a, b] k2 pt2) pos.line X.env = pure false := by rfl) :
    DS X W (.Assign [.Tuple [.Name x px, .Name y py] kt pt] (.Tuple [a, b] k2 pt2) pos) (mPar2 i j mas) :=
  PS.imp (ps_par hc hN hi hj hij hx hy ha hw hs) fun D σ H ⟨Γ, S, δ, Dd, c, m, er⟩ => ⟨Γ, S, δ, _, _, c, m, fun Γ1 S1 H1 ds vs e1 R1 r1 q1 => by
    obtain ⟨d, d2, rfl, q1⟩ := inv_two q1
    obtain ⟨v, w, rfl, r, r'⟩ := r1.two
    exact ⟨v, w, rfl, er.nx Γ1 S1 H1 _ _ e1 (((c.mk' R1 e1).set r).set r') q1⟩, er.ke c⟩
theorem RVs.three {K : PySem.W.Frag} {Γ : AG} {d e f : DV} {vs : List V} (r : RVs K Γ [d, e, f] vs) : ∃ u v w, vs = [u, v, w] ∧ RV K Γ d u ∧ RV K Γ e v ∧ RV K Γ f w := by
  obtain ⟨u, us, rfl, h1, h2⟩ := r
  obtain ⟨v, w, rfl, h3, h4⟩ := RVs.two (Γ := Γ) h2
  exact ⟨u, v, w, rfl, h1, h3, h4⟩
theorem d_par3 {i j l : Nat} {x y z : Str} {a b f : Expr} {px py pz pt : Pos} {kt k2 pt2} (hc : X.calm = true) (hN : X.N.Nodup) (ha : DA X W [a, b, f] mas) (hi : X.N[i]? = some x := by rfl) (hj : X.N[j]? = some y := by rfl) (hl : X.N[l]? = some z := by rfl) (hij : i ≠ j := by decide) (hil : i ≠ l := by decide) (hjl : j ≠ l := by decide)
    (hx : X.env.scope.names.lookup x = some .local := by rfl) (hy : X.env.scope.names.lookup y = some .local := by rfl) (hz : X.env.scope.names.lookup z = some .local := by rfl)
    (hw : swappedStores [.Tuple [.Name x px, .Name y py, .Name z pz] kt pt] (.Tuple [a, b, f] k2 pt2) X.env = pure (some [x, y, z]) := by rfl)
    (hs : swapsWithSole [.Tuple [.Name x px, .Name y py, .Name z pz] kt pt] (.Tuple [a, b, f] k2 pt2) pos.line X.env = pure false := by rfl) :
    DS X W (.Assign [.Tuple [.Name x px, .Name y py, .Name z pz] kt pt] (.Tuple [a, b, f] k2 pt2) pos) (mPar3 i j l mas) :=
  PS.imp (ps_par3 hc hN hi hj hl hij hil hjl hx hy hz ha hw hs) fun D σ H ⟨Γ, S, δ, Dd, c, m, er⟩ => ⟨Γ, S, δ, _, _, c, m, fun Γ1 S1 H1 ds vs e1 R1 r1 q1 => by
    obtain ⟨d, d2, d3, rfl, q1⟩ := inv_three q1
    obtain ⟨u, v, w, rfl, r, r', r''⟩ := r1.three
    exact ⟨u, v, w, rfl, er.nx Γ1 S1 H1 _ _ e1 ((((c.mk' R1 e1).set r).set r').set r'') q1⟩, er.ke c⟩
theorem d_while {t : Expr} (hp : PassesOwn (model X.prog X.w) X.A X.env X.xe) (ht : DT X W t mt) (hb : DB X W b mb) : DS X W (.While t b [] pos) (mWhile mt mb) :=
  PS.imp (ps_while hp ht hb) fun D σ H ⟨Γ, S, δ, Dd, c, m, er⟩ => by
    obtain ⟨W1, ⟨m0, w0⟩, turn⟩ := m
    refine ⟨fun n σ' H' => ∃ Γ' S' δ', Ext Γ Γ' ∧ Cf X.K Γ' S' H' δ' σ' ∧ W1 n δ' S', ⟨m0, Γ, S, δ, Ext.refl Γ, c, w0⟩, ?_⟩
    rintro n σ1 H1 ⟨Γ1, S1, δ1, e1, c1, w1⟩
    refine ⟨Γ1, S1, δ1, _, _, c1, turn n δ1 S1 w1, fun Γ2 S2 H2 d2 v2 e2 R2 r2 q2 => ?_, (er.mono e1).ke c1⟩
    cases (show d2 = v2 from r2)
    have again : ∀ Γ' S' H' δ' σ', Ext Γ2 Γ' → Cf X.K Γ' S' H' δ' σ' → (∃ m', m' < n ∧ W1 m' δ' S') → ∃ m', m' < n ∧ ∃ Γ'' S'' δ'', Ext Γ Γ'' ∧ Cf X.K Γ'' S'' H' δ'' σ' ∧ W1 m' δ'' S'' := fun Γ' S' H' δ' σ' e3 c3 ⟨m', hm, w3⟩ => ⟨m', hm, Γ', S', δ', (e1.trans e2).trans e3, c3, w3⟩
    cases d2 with
    | true =>
      rw [if_pos rfl]
      refine ⟨fun σ' H' => ∃ m', m' < n ∧ ∃ Γ'' S'' δ'', Ext Γ Γ'' ∧ Cf X.K Γ'' S'' H' δ'' σ' ∧ W1 m' δ'' S'', fun σ' H' h => h, Γ2, S2, δ1, _, c1.mk' R2 e2, q2, ?_⟩
      exact ⟨again, (er.mono (e1.trans e2)).rt, (er.mono (e1.trans e2)).nx, again, (er.mono (e1.trans e2)).ex⟩
    | false =>
      rw [if_neg Bool.false_ne_true]
      exact er.nx Γ2 S2 H2 δ1 σ1 (e1.trans e2) (c1.mk' R2 e2) q2
/-! ### for -/
def forGo (g : MG) (tb : MS) (D : EndsD) : List DV → DEnv → Store → Prop
  | [], δ, S => D.nx δ S
  | x :: xs, δ, S => g x δ S fun δ1 S1 => tb { D with nx := forGo g tb D xs, ct := forGo g tb D xs, bk := D.nx } δ1 S1
def mFor (it : MI) (g : MG) (tb : MS) : MS := fun D δ S => it δ S (fun xs S1 => forGo g tb D xs δ S1) (fun x S1 => D.ex x δ S1)
theorem d_for {g : MG} {mi : MI} (hp : PassesOwn (model X.prog X.w) X.A X.env X.xe) (hc : X.calm = true) (hi : DI X W tg iter mi) (hg : DG X tg g) (hb : DB X W b mb) (hs : ∀ x, foldedSetIterable iter X.env x = pure x := by intro _; rfl) :
    DS X W (.For tg iter b [] pos) (mFor mi g mb) :=
  PS.imp (ps_for hp hc hi hg hb hs) fun D σ H ⟨Γ, S, δ, Dd, c, m, er⟩ => ⟨Γ, S, δ, _, _, c, m, fun Γ1 S1 H1 xs J e1 R1 it q1 => by
    refine ⟨fun i n σ' H' => n = xs.length - i ∧ ∃ Γ' S' δ', Ext Γ1 Γ' ∧ Cf X.K Γ' S' H' δ' σ' ∧ forGo g mb Dd (xs.drop i) δ' S', ⟨xs.length - 0, rfl, Γ1, S1, δ, Ext.refl Γ1, c.mk' R1 e1, q1⟩, ?_⟩
    rintro i n σ2 H2 ⟨rfl, Γ2, S2, δ2, e2, c2, w2⟩
    obtain ⟨it1, it2⟩ := it Γ2 S2 H2 ⟨e2.pre, e2.sub, rfl, rfl⟩ c2.rs i
    by_cases hi : i < xs.length
    · have ed : xs.drop i = xs[i] :: xs.drop (i + 1) := List.drop_eq_getElem_cons hi
      rw [ed] at w2
      obtain ⟨go, yl⟩ := it2 xs[i] (by simp [hi])
      refine .inr ⟨go, fun σ' H' => ∃ Γ' S' δ', Ext Γ1 Γ' ∧ Cf X.K Γ' S' H' δ' σ' ∧ forGo g mb Dd (xs.drop (i + 1)) δ' S', fun σ' H' h => ⟨xs.length - (i + 1), by omega, rfl, h⟩, fun v H3 y => ?_⟩
      obtain ⟨Γ3, e3, R3, r3⟩ := yl v H3 y
      refine ⟨Γ3, S2, δ2, xs[i], _, c2.mk' R3 e3, r3, w2, fun Γ4 S4 H4 δ4 σ4 e4 c4 q4 => ?_⟩
      have again : ∀ Γ' S' H' δ' σ', Ext Γ4 Γ' → Cf X.K Γ' S' H' δ' σ' → forGo g mb Dd (xs.drop (i + 1)) δ' S' → ∃ Γ' S' δ', Ext Γ1 Γ' ∧ Cf X.K Γ' S' H' δ' σ' ∧ forGo g mb Dd (xs.drop (i + 1)) δ' S' := fun Γ' S' H' δ' σ' e5 c5 w5 => ⟨Γ', S', δ', ((e2.trans e3).trans e4).trans e5, c5, w5⟩
      have er4 := er.mono (((e1.trans e2).trans e3).trans e4)
      exact ⟨Γ4, S4, δ4, _, c4, q4, again, er4.rt, er4.nx, again, er4.ex⟩
    · have hd : xs.drop i = [] := List.drop_eq_nil_of_le (by omega)
      rw [hd] at w2
      exact .inl ⟨it1 (by omega), er.nx Γ2 S2 H2 δ2 σ2 (e1.trans e2) c2 w2⟩, er.ke c⟩
end
/-! ### comprehensions -/
def wipeD (δ : DEnv) : List Nat → DEnv
  | [] => δ
  | v :: vs => (wipeD δ vs).set v none
theorem Cf.wipe {K : PySem.W.Frag} {Γ : AG} {S : Store} {H : Hp} {δ : DEnv} {σ : L2.St} (c : Cf K Γ S H δ σ) : ∀ vs : List Nat, Cf K Γ S H (wipeD δ vs) (L2.wipe σ vs)
  | [] => c
  | v :: vs => by
    have h := Cf.wipe c vs
    refine ⟨h.rs, ?_, fun i d e => ?_⟩
    · show ((wipeD δ vs).set v none).length = ((L2.wipe σ vs).set v none).length
      rw [List.length_set, List.length_set]
      exact h.len
    · have e' : ((wipeD δ vs).set v none)[i]? = some (some d) := e
      by_cases hi : v = i
      · subst hi
        by_cases hl : v < (wipeD δ vs).length
        · rw [List.getElem?_set_self hl] at e'
          cases e'
        · rw [List.getElem?_eq_none (by simpa using hl)] at e'
          cases e'
      · rw [List.getElem?_set_ne hi] at e'
        obtain ⟨w, h1, h2⟩ := h.ls i d e'
        refine ⟨w, ?_, h2⟩
        show ((L2.wipe σ vs).set v none)[i]? = some (some w)
        rw [List.getElem?_set_ne hi]
        exact h1
theorem wipe_agree {σ σ' : L2.St} : ∀ {vs : List Nat}, Agree vs σ σ' → L2.wipe σ' vs = L2.wipe σ vs := by
  intro vs a
  have gen : ∀ us : List Nat, (∀ i, i ∉ us → i ∉ vs → (L2.wipe σ' us)[i]? = (L2.wipe σ us)[i]?) ∧ ∀ i, i ∈ us → (L2.wipe σ' us)[i]? = (L2.wipe σ us)[i]? := by
    intro us
    induction us with
    | nil => exact ⟨fun i _ h => a.2 i h, fun i h => nomatch h⟩
    | cons u us ih =>
      refine ⟨fun i hi hv => ?_, fun i hi => ?_⟩
      · have h1 : u ≠ i := fun e => hi (by rw [e]; exact List.mem_cons_self)
        show ((L2.wipe σ' us).set u none)[i]? = ((L2.wipe σ us).set u none)[i]?
        rw [List.getElem?_set_ne h1, List.getElem?_set_ne h1]
        exact ih.1 i (fun z => hi (List.mem_cons_of_mem _ z)) hv
      · show ((L2.wipe σ' us).set u none)[i]? = ((L2.wipe σ us).set u none)[i]?
        by_cases h1 : u = i
        · subst h1
          have hl : (L2.wipe σ' us).length = (L2.wipe σ us).length := by rw [wipe_length, wipe_length]; exact a.1
          by_cases h2 : u < (L2.wipe σ' us).length
          · rw [List.getElem?_set_self h2, List.getElem?_set_self (by rw [← hl]; exact h2)]
          · rw [List.getElem?_eq_none (by simpa using h2), List.getElem?_eq_none (by rw [List.length_set, ← hl]; omega)]
        · rw [List.getElem?_set_ne h1, List.getElem?_set_ne h1]
          rcases List.mem_cons.mp hi with e | e
          · exact absurd e.symm h1
          · exact ih.2 i e
  refine List.ext_getElem? fun i => ?_
  by_cases hi : i ∈ vs
  · exact (gen vs).2 i hi
  · exact (gen vs).1 i hi hi
def noE : MX := fun _ _ => False
def noW : WX := fun _ _ _ _ => False
def lcGo (t : Tg) (tt : MT) (te : ME) (δ : DEnv) : List DV → List DV → Store → MK (List DV) → Prop
  | [], acc, S, Q => Q acc S
  | x :: xs, acc, S, Q => match bindT t x δ with
    | some δ1 => tt δ1 S (fun b S1 => match b with
      | true => te δ1 S1 (fun y S2 => acc.length < 16777216 ∧ lcGo t tt te δ xs (acc ++ [y]) S2 Q) noE
      | false => lcGo t tt te δ xs acc S1 Q) noE
    | none => False
/-- the list is never changed | may be changed -/
def mLc (it : MI) (t : Tg) (tt : MT) (te : ME) (vs : List Nat) : ME := fun δ S Q E => it δ S (fun xs S1 => lcGo t tt te (wipeD δ vs) xs [] S1 (fun ys S2 => Q (.lst ys) S2)) E
def mLcO (it : MI) (t : Tg) (tt : MT) (te : ME) (vs : List Nat) : ME := fun δ S Q E => it δ S (fun xs S1 => lcGo t tt te (wipeD δ vs) xs [] S1 (fun ys S2 => Q (.ref S2.length) (S2 ++ [some (.lst ys)]))) E
def mYes : MT := fun _ S Q _ => Q true S
def DTs (X : Cx) (W : WX) (ifs : List Expr) (m : MT) : Prop := PTs X ifs (tG relB X.K W m)
section
variable {X : Cx} {W : WX} {elt tg iter : Expr} {ifs : List Expr} {scope : Scope} {own : List (Str × Nat)} {pos : Pos} {mi : MI} {t : Tg} {mt : MT} {me : ME}
theorem PTs.imp {t t' : TT} (h : PTs X ifs t) (i : ∀ σ H Q, t' σ H Q → t σ H Q) : PTs X ifs t' := ⟨fun pins s σ H Q I q => h.run pins s σ H Q I (i σ H Q q)⟩
theorem d_yes : DTs X W [] mYes := PTs.imp pts_nil fun σ H Q ⟨Γ, S, δ, Qd, Ed, c, m, kq, ke⟩ => kq Γ S H true true (Ext.refl Γ) c.rs rfl m
theorem d_ifs {c : Expr} (h : DT X W c mt) : DTs X W [c] mt := pts_one h
/-- the new list is at D, apart from all that the items are made of: it is given to the heap's unchanging part at the end -/
theorem lc_run {Γ : AG} {S : Store} {H1 : Hp} {δ : DEnv} {σ : L2.St} {xs : List DV} {J : It} {Q : VK} (vs : List Nat) (hn : ∀ i ∈ namesT t, i ∈ vs) {Qd : MK (List DV)} (c1 : Cf X.K Γ S H1 δ σ) (it : ItD X.K Γ J xs) (q1 : lcGo t mt me (wipeD δ vs) xs [] S Qd)
    (fin : ∀ A' G' S' H' D ys us, Ext Γ ⟨A', G', Γ.F, Γ.T⟩ → H1 D = none → Γ.F D = none → Rs X.K ⟨A', G', upd Γ.F D (.lst us), Γ.T⟩ S' H' → RVs X.K ⟨A', G', Γ.F, Γ.T⟩ ys us → Qd ys S' → Q (.ref D) H') :
    ∀ D, H1 D = none → ∃ W1 : Nat → Nat → Hp → Prop, (∃ m, W1 0 m (upd H1 D (.lst []))) ∧ ∀ i m H, W1 i m H →
      (J.stop i H ∧ Q (.ref D) H) ∨ (J.go i H ∧ ∃ Nx : Hp → Prop, (∀ H', Nx H' → ∃ m', m' < m ∧ W1 (i + 1) m' H') ∧ ∀ x H', J.yld i H x H' → tgV X.K t x (L2.wipe σ vs) H' fun σ2 H2 => L2.wipe σ2 vs = L2.wipe σ vs ∧ tG relB X.K noW mt σ2 H2 fun b H3 =>
        if b = true then tG (RV X.K) X.K noW me σ2 H3 fun y H4 => ∃ acc, H4 D = some (.lst acc) ∧ acc.length < sizeLine ∧ Nx (upd H4 D (.lst (acc ++ [y]))) else Nx H3) := by
  intro D hD
  have hF := c1.rs.noF hD
  refine ⟨fun i m H => m = xs.length - i ∧ ∃ A' G' S' ys us, Ext Γ ⟨A', G', Γ.F, Γ.T⟩ ∧ Rs X.K ⟨A', G', upd Γ.F D (.lst us), Γ.T⟩ S' H ∧ RVs X.K ⟨A', G', Γ.F, Γ.T⟩ ys us ∧ lcGo t mt me (wipeD δ vs) (xs.drop i) ys S' Qd,
    ⟨xs.length - 0, rfl, Γ.A, Γ.G, S, [], [], Ext.refl Γ, c1.rs.hold hD _, rfl, q1⟩, ?_⟩
  rintro i m H2 ⟨rfl, A2, G2, S2, ys, us, e2, R2, r2, w2⟩
  obtain ⟨it1, it2⟩ := it ⟨A2, G2, upd Γ.F D (.lst us), Γ.T⟩ S2 H2 e2 R2 i
  by_cases hi : i < xs.length
  · have ed : xs.drop i = xs[i] :: xs.drop (i + 1) := List.drop_eq_getElem_cons hi
    rw [ed] at w2
    obtain ⟨go, yl⟩ := it2 xs[i] (by simp [hi])
    refine .inr ⟨go, fun H' => ∃ A' G' S' ys us, Ext Γ ⟨A', G', Γ.F, Γ.T⟩ ∧ Rs X.K ⟨A', G', upd Γ.F D (.lst us), Γ.T⟩ S' H' ∧ RVs X.K ⟨A', G', Γ.F, Γ.T⟩ ys us ∧ lcGo t mt me (wipeD δ vs) (xs.drop (i + 1)) ys S' Qd, fun H' h => ⟨xs.length - (i + 1), by omega, rfl, h⟩, fun v H3 y => ?_⟩
    obtain ⟨⟨A3, G3, F3, T3⟩, e3, R3, r3⟩ := yl v H3 y
    obtain rfl : F3 = upd Γ.F D (.lst us) := e3.eqF
    obtain rfl : T3 = Γ.T := e3.eqT
    have w2' : (match bindT t xs[i] (wipeD δ vs) with
      | some δ1 => mt δ1 S2 (fun b S1 => match b with
        | true => me δ1 S1 (fun y S2 => ys.length < 16777216 ∧ lcGo t mt me (wipeD δ vs) (xs.drop (i + 1)) (ys ++ [y]) S2 Qd) noE
        | false => lcGo t mt me (wipeD δ vs) (xs.drop (i + 1)) ys S1 Qd) noE
      | none => False) := w2
    cases hb : bindT t xs[i] (wipeD δ vs) with
    | none =>
      rw [hb] at w2'
      exact w2'.elim
    | some δ1 =>
      rw [hb] at w2'
      have e23 : Ext Γ ⟨A3, G3, Γ.F, Γ.T⟩ := e2.trans ⟨e3.pre, e3.sub, rfl, rfl⟩
      have cw : Cf X.K ⟨A3, G3, upd Γ.F D (.lst us), Γ.T⟩ S2 H3 (wipeD δ vs) (L2.wipe σ vs) := by
        have h := c1.wipe vs
        exact ⟨R3, h.len, fun j d ej => by
          obtain ⟨z, h1, h2⟩ := h.ls j d ej
          exact ⟨z, h1, RV.mono e23 d z h2⟩⟩
      refine tgV_run t xs[i] v (wipeD δ vs) δ1 (L2.wipe σ vs) _ cw r3 hb fun σ' c' a => ?_
      have ww : L2.wipe σ' vs = L2.wipe (L2.wipe σ vs) vs := wipe_agree ⟨a.1, fun j hj => a.2 j fun z => hj (hn j z)⟩
      have w1 : L2.wipe (L2.wipe σ vs) vs = L2.wipe σ vs := wipe_agree ⟨wipe_length σ vs, fun j hj => wipe_out hj⟩
      refine ⟨ww.trans w1, ⟨_, S2, δ1, _, noE, c', w2', fun ⟨A4, G4, F4, T4⟩ S4 H4 d4 v4 e4 R4 r4 q4 => ?_, fun _ _ _ _ _ _ _ _ _ z => z.elim⟩⟩
      obtain rfl : F4 = upd Γ.F D (.lst us) := e4.eqF
      obtain rfl : T4 = Γ.T := e4.eqT
      have e24 : Ext Γ ⟨A4, G4, Γ.F, Γ.T⟩ := e23.trans ⟨e4.pre, e4.sub, rfl, rfl⟩
      have r24 : RVs X.K ⟨A4, G4, Γ.F, Γ.T⟩ ys us := RVs.mono (Γ := ⟨A2, G2, Γ.F, Γ.T⟩) (Γ' := ⟨A4, G4, Γ.F, Γ.T⟩) ((Ext.mk e3.pre e3.sub rfl rfl : Ext ⟨A2, G2, Γ.F, Γ.T⟩ ⟨A3, G3, Γ.F, Γ.T⟩).trans ⟨e4.pre, e4.sub, rfl, rfl⟩) _ _ r2
      cases (show d4 = v4 from r4)
      cases d4 with
      | true =>
        rw [if_pos rfl]
        refine ⟨_, S4, δ1, _, noE, c'.mk' R4 e4, q4, fun ⟨A5, G5, F5, T5⟩ S5 H5 d5 v5 e5 R5 r5 q5 => ?_, fun _ _ _ _ _ _ _ _ _ z => z.elim⟩
        obtain rfl : F5 = upd Γ.F D (.lst us) := e5.eqF
        obtain rfl : T5 = Γ.T := e5.eqT
        have hD5 : H5 D = some (.lst us) := R5.fsub D _ upd_same
        have r25 : RVs X.K ⟨A5, G5, Γ.F, Γ.T⟩ ys us := RVs.mono (Γ := ⟨A4, G4, Γ.F, Γ.T⟩) (Γ' := ⟨A5, G5, Γ.F, Γ.T⟩) ⟨e5.pre, e5.sub, rfl, rfl⟩ _ _ r24
        have R6 := R5.held (p := D) (o0 := .lst us) upd_same (.lst (us ++ [v5]))
        have eu : upd (upd Γ.F D (.lst us)) D (HO.lst (us ++ [v5])) = upd Γ.F D (.lst (us ++ [v5])) := upd_upd
        refine ⟨us, hD5, by rw [← r25.length]; exact Nat.lt_of_lt_of_le q5.1 (Nat.le_of_eq sizeLine_eq.symm), A5, G5, S5, ys ++ [d5], us ++ [v5], e24.trans ⟨e5.pre, e5.sub, rfl, rfl⟩, ?_, r25.snoc r5, q5.2⟩
        rw [← eu]
        exact R6
      | false =>
        rw [if_neg Bool.false_ne_true]
        exact ⟨A4, G4, S4, ys, us, e24, R4, r24, q4⟩
  · have hd : xs.drop i = [] := List.drop_eq_nil_of_le (by omega)
    rw [hd] at w2
    exact .inl ⟨it1 (by omega), fin A2 G2 S2 H2 D ys us e2 hD hF R2 r2 w2⟩
variable (hc : X.calm = true) (hN : X.N.Nodup) (hi : DI X W tg iter mi) (ok : BlkOk X.N X.env.scope scope own) (hn : ∀ i ∈ namesT t, i ∈ own.map (·.2))
  (hg : ∀ (s : Shared) (H : Hp) (C : Addr) (cl : List (Str × Addr)) (fp : List Addr), DTg (X.blk s H scope (compEnvC scope cl C X.env) fp) tg t)
  (ht : ∀ (s : Shared) (H : Hp) (C : Addr) (cl : List (Str × Addr)) (fp : List Addr), DTs (X.blk s H scope (compEnvC scope cl C X.env) fp) noW ifs mt)
  (he : ∀ (s : Shared) (H : Hp) (C : Addr) (cl : List (Str × Addr)) (fp : List Addr), DE (X.blk s H scope (compEnvC scope cl C X.env) fp) noW elt me)
include hc hN hi ok hn hg ht he
theorem d_lc (hs : ∀ x, foldedSetIterable iter X.env x = pure x := by intro _; rfl) : DE X W (.ListComp elt [⟨tg, iter, ifs, 0⟩] scope pos) (mLc mi t mt me (own.map (·.2))) :=
  PE.imp (pe_lc (wi := tID X.K W mi) (g := tgV X.K t) (tt := tG relB X.K noW mt) (te := tG (RV X.K) X.K noW me) hc hN hi ok hg ht he hs) fun σ H Q ⟨Γ, S, δ, Qd, Ed, c, m, kq, ke⟩ => ⟨Γ, S, δ, _, Ed, c, m, fun Γ1 S1 H1 xs J e1 R1 it q1 =>
    lc_run (own.map (·.2)) hn (c.mk' R1 e1) it q1 fun A2 G2 S2 H2 D ys us e2 hD hF R2 r2 q2 => by
      have R3 := R2.give rfl hF
      have e3 : Ext Γ1 ⟨A2, upd G2 D (.lst us), Γ1.F, Γ1.T⟩ := e2.trans ⟨⟨[], by simp⟩, fun a u ea => by
        show upd G2 D (.lst us) a = some u
        have hne : a ≠ D := fun z => by
          subst z
          rw [R2.fdis a _ upd_same] at ea
          cases ea
        rw [upd_ne hne]
        exact ea, rfl, rfl⟩
      exact kq _ S2 H2 (.lst ys) (.ref D) (e1.trans e3) R3 ⟨D, us, rfl, upd_same, RVs.mono (Γ := ⟨A2, G2, Γ1.F, Γ1.T⟩) (Γ' := ⟨A2, upd G2 D (.lst us), Γ1.F, Γ1.T⟩) ⟨⟨[], by simp⟩, fun a u ea => by
        show upd G2 D (.lst us) a = some u
        have hne : a ≠ D := fun z => by
          subst z
          rw [R2.fdis a _ upd_same] at ea
          cases ea
        rw [upd_ne hne]
        exact ea, rfl, rfl⟩ _ _ r2⟩ q2, ke⟩
theorem d_lcO (hs : ∀ x, foldedSetIterable iter X.env x = pure x := by intro _; rfl) : DE X W (.ListComp elt [⟨tg, iter, ifs, 0⟩] scope pos) (mLcO mi t mt me (own.map (·.2))) :=
  PE.imp (pe_lc (wi := tID X.K W mi) (g := tgV X.K t) (tt := tG relB X.K noW mt) (te := tG (RV X.K) X.K noW me) hc hN hi ok hg ht he hs) fun σ H Q ⟨Γ, S, δ, Qd, Ed, c, m, kq, ke⟩ => ⟨Γ, S, δ, _, Ed, c, m, fun Γ1 S1 H1 xs J e1 R1 it q1 =>
    lc_run (own.map (·.2)) hn (c.mk' R1 e1) it q1 fun A2 G2 S2 H2 D ys us e2 hD hF R2 r2 q2 => by
      have R3 := R2.givePush rfl hF (d := .lst ys) ⟨us, rfl, r2⟩
      refine kq ⟨A2 ++ [D], G2, Γ1.F, Γ1.T⟩ (S2 ++ [some (.lst ys)]) H2 (.ref S2.length) (.ref D) (e1.trans (e2.trans ⟨⟨[D], rfl⟩, fun _ _ z => z, rfl, rfl⟩)) R3 ⟨D, ?_, rfl⟩ q2
      show (A2 ++ [D])[S2.length]? = some D
      have hl : A2.length = S2.length := R2.len
      rw [← hl]
      simp, ke⟩
end
end DL
/-! D layer, part 7: defs over data, their calls. -/
namespace DL
open PySem PySem.Spec PyProof.Rows L2

/-- what a body's context brings along -/
structure XC (X : Cx) (k : Nat) : Prop where
  room : Room k X.A
  guards : X.A.guards = some []
  calm : X.calm = true
  pass : PassesOwn (model X.prog X.w) X.A X.env X.xe
theorem XC.hu {X : Cx} {k : Nat} (c : XC X k) : X.A.units + 64 < cLine := c.room.units
theorem XC.blk {X : Cx} {k : Nat} (c : XC X k) (s : Shared) (H : Hp) (scope : Scope) (cenv : Env) (fp : List Addr) : XC (X.blk s H scope cenv fp) k := ⟨c.room, c.guards, c.calm, PassesOwn.never⟩
theorem XC.mono {X : Cx} {j k : Nat} (c : XC X k) (h : j ≤ k) : XC X j := ⟨c.room.mono h, c.guards, c.calm, c.pass⟩
abbrev GX := List DV → Store → MK DV → MX → Prop
/-- a def's promise: called where no text of a value is being made -/
structure FnG (P : Program) (w : World) (K : PySem.W.Frag) (mg : Str → Option Value) (base : Heap) (cx : CXT) (k : Nat) (f : Addr) (fd : FuncData) (ps : List Str) (sp : Sp) : Prop where
  len : ∀ vs H Q E, sp vs H Q E → vs.length = ps.length
  run : ∀ (A : Around) (outer : List Env) (s : Shared) (H : Hp) (args : Args) (us : List Value) (vs : List V) (Q : VK) (E : XK), A.guards = some [] → Room k A → Env0 P w K mg base A outer s H → BindsTo s fd args (ps.zip us) → Vals vs us → sp vs H Q E →
    codeAny (model P w) A (.call (.ref f) args) (CR cx outer P w H s Q E) s
/-- behind an exception -/
def KX (K : PySem.W.Frag) (Γ : AG) (Ed : MX) (E : XK) : Prop := ∀ Γ' S' H' x c dd, Ext Γ Γ' → Rs K Γ' S' H' → RX K Γ' x c dd → Ed x S' → E c dd H'
/-- the promise of a def of n parameters that does m -/
def spD (K : PySem.W.Frag) (n : Nat) (m : GX) : Sp := fun vs H Q E => ∃ Γ S ds Qd Ed, ds.length = n ∧ Rs K Γ S H ∧ RVs K Γ ds vs ∧ m ds S Qd Ed ∧ KQ (RV K) K Γ Qd Q ∧ KX K Γ Ed E
def startD (n : Nat) (ds : List DV) : DEnv := ds.map some ++ List.replicate (n - ds.length) none
/-- what a body does, n its names -/
def mBody (n : Nat) (b : MS) : GX := fun ds S Q E => b { nx := fun _ S' => Q .non S', rt := Q, bk := fun _ _ => False, ct := fun _ _ => False, ex := fun x _ S' => E x S' } (startD n ds) S
section
variable {P : Program} {w : World} {K : PySem.W.Frag} {mg : Str → Option Value} {base : Heap} {x qual : Str} {params : Arguments} {body : List Stmt} {scope : Scope} {dvs : List V} {kws : List (Str × V)} {f : Addr} {fd : FuncData} {cx : CXT} {N ps : List Str} {k : Nat}
theorem start_cf {Γ : AG} {S : Store} {H : Hp} {ds : List DV} {vs : List V} (R : Rs K Γ S H) (r : RVs K Γ ds vs) : Cf K Γ S H (startD N.length ds) (L2.start N vs) := by
  have hl := r.length
  refine ⟨R, ?_, fun i d e => ?_⟩
  · unfold startD L2.start
    rw [List.length_append, List.length_append, List.length_map, List.length_map, List.length_replicate, List.length_replicate, hl]
  · unfold startD at e
    unfold L2.start
    by_cases hi : i < ds.length
    · rw [List.getElem?_append_left (by simpa using hi), List.getElem?_map] at e
      cases e2 : ds[i]? with
      | none =>
        rw [e2] at e
        cases e
      | some d2 =>
        rw [e2] at e
        cases e
        obtain ⟨v, h1, h2⟩ := r.get e2
        exact ⟨v, by rw [List.getElem?_append_left (by rw [List.length_map, ← hl]; exact hi), List.getElem?_map, h1]; rfl, h2⟩
    · rw [List.getElem?_append_right (by simpa using hi), List.getElem?_replicate] at e
      split at e <;> cases e
theorem fnG_of {b : MS} (F : FunD K x qual params body scope dvs kws f fd) (sc : FnScope N ps scope)
    (hb : ∀ (cdv : Value) (A : Around) (outer : List Env) (s : Shared) (H : Hp) (E : XK), XC (cxOf cx P w K mg base N qual scope f cdv A outer s H E) k → (cx = L2.CX P w → Takes (cxOf cx P w K mg base N qual scope f cdv A outer s H E) (fun c d _ H' => E c d H')) →
      DB (cxOf cx P w K mg base N qual scope f cdv A outer s H E) (fun c d _ H' => E c d H') body b) : FnG P w K mg base cx (k + 1) f fd ps (spD K ps.length (mBody N.length b)) := by
  obtain ⟨oc, od, dV, kV, doc, pm, an, cdv, ct, osl, rfl, lk, hcd, _, _⟩ := F.ex
  refine ⟨fun vs H Q E ⟨Γ, S, ds, Qd, Ed, hl, R, r, _⟩ => by rw [← hl, r.length], fun A outer s H args us vs Q E hgd hr e0 hbt r0 hsp => ?_⟩
  obtain ⟨Γ, S, ds, Qd, Ed, hl, R, r, hm, kq, kx⟩ := hsp
  have hlv : vs.length = ps.length := by rw [← r.length, hl]
  have inK : K.In s.heap := e0.mod.kin.keeps fun a o e => (e0.bs a o e).1
  have noL : s.heap.NoLimit := e0.mod.nolimit.keeps fun a o e => (e0.bs a o e).1
  have kinds : ∀ y ∈ ps.zip us, scope.names.lookup y.1 = some .local ∨ (scope.names.lookup y.1 = some .cell ∧ ((cellsFrom (s.heap.objs.size + 1) scope.names []).lookup y.1).isSome = true) := fun ⟨n, v⟩ hy =>
    (sc.par n (List.of_mem_zip hy).1).elim (fun q => .inl q) fun q => .inr ⟨q, PySem.W.cellsFrom_some _ _ _ (.inl q)⟩
  refine codeAny_call_function hr.depth (inK _ _ lk) rfl sc.co sc.gen rfl (PySem.W.codeRec_of inK hcd) (hbt _ _ _ _ ?_)
  refine wpAny_newFunctionEnv_cells sc.kind kinds fun env he s1 y => ?_
  subst he
  refine ⟨noL.keeps y.toInCall.keep, codeAny_func ?_⟩
  have I0 : Inv (cxOf cx P w K mg base N qual scope f cdv A outer s H E) [] (L2.start N vs) H s1 := inv_start sc hr.hd e0 hlv r0 y
  have hx : XC (cxOf cx P w K mg base N qual scope f cdv A outer s H E) k := ⟨hr.deeper _, hgd, rfl, passes_of rfl⟩
  have D0 : DB (cxOf cx P w K mg base N qual scope f cdv A outer s H E) (fun c d _ H' => E c d H') body b := hb cdv A outer s H E hx (fun e => by
    subst e
    exact takes_of rfl rfl rfl rfl)
  have hrun : tSD K (fun c d _ H' => E c d H') b { nx := fun _ H' => Q .non H', rt := Q } (L2.start N vs) H :=
    ⟨Γ, S, startD N.length ds, _, start_cf R r, hm, ⟨fun Γ' S' H' δ' σ' e c q => kq Γ' S' H' .non .non e c.rs rfl q, fun Γ' S' H' d v e R' rv q => kq Γ' S' H' d v e R' rv q, fun _ _ _ _ _ _ _ q => q, fun _ _ _ _ _ _ _ q => q, fun Γ' S' H' δ' σ' xx c dd e c' rx q => kx Γ' S' H' xx c dd e c'.rs rx q⟩⟩
  refine wpAny_mono (D0.run [] s1 (L2.start N vs) H _ I0 hrun) (fun fl s' hs => ?_) fun e s' hs => hs
  have done : ∀ {σ' : L2.St} {H' : Hp} {v : V} {u : Value}, Inv (cxOf cx P w K mg base N qual scope f cdv A outer s H E) [] σ' H' s' → RelV v u → Q v H' → CE outer P w H s Q u s' :=
    fun {σ' H' v u} J rv q => ⟨v, H', J.os, J.bare, J.base, J.hok, rv, q⟩
  match fl, hs with
  | .ret u, hs =>
    obtain ⟨v, σ', H', J, rv, q⟩ := hs
    exact done J rv q
  | .next, hs =>
    obtain ⟨σ', H', J, q⟩ := hs
    exact done (v := V.non) (u := Value.none) J rfl q
  | .brk, hs =>
    obtain ⟨_, _, _, q⟩ := hs
    exact q.elim
  | .cont, hs =>
    obtain ⟨_, _, _, q⟩ := hs
    exact q.elim
end
/-! ### calls -/
/-- a def of the module's, by its name, of all its parameters -/
structure Cal (P : Program) (w : World) (K : PySem.W.Frag) (mg : Str → Option Value) (base : Heap) (cx : CXT) (k : Nat) (x : Str) (n : Nat) (m : GX) : Prop where
  ex : ∃ f fd ps, mg x = some (.ref f) ∧ PySem.W.keepIn K (.ref f) = true ∧ Binds K fd ps [] ∧ ps.length = n ∧ FnG P w K mg base cx k f fd ps (spD K n m)
def mCallF (n : Nat) (m : GX) (as : MA) : ME := fun δ S Q E => as δ S (fun ds S1 => ds.length = n ∧ m ds S1 Q E) E
section
variable {X : Cx} {W : WX} {cx : CXT} {k j n : Nat} {m : GX} {x : Str} {p pos : Pos} {e : Expr} {es : List Expr} {mas : MA} {f : Addr} {fd : FuncData} {ps : List Str} {sp : Sp} {E : XK}
theorem run_fnG {pins : List (Addr × Obj)} {σ : L2.St} {H : Hp} {s : Shared} {Q : VK} {us : List Value} {vs : List V} (F : FnG X.prog X.w X.K X.mg X.base cx k f fd ps sp) (hgd : X.A.guards = some []) (hr : Room k X.A) (hb : Binds X.K fd ps [])
    (hx : ∀ (u : Value) (s' : Shared), cx X.stack H s E u s' → X.xe u s') (I : Inv X pins σ H s) (r : Vals vs us) (h : sp vs H Q E) : wpAny (model X.prog X.w) X.A (call (.ref f) us) (EP X pins σ Q) X.xe s := by
  have hl : (us ++ []).length = ps.length := by rw [List.append_nil, ← r.length]; exact F.len _ _ _ _ h
  have hb2 := hb s us I.kIn hl
  rw [List.append_nil] at hb2
  refine wpAny_call (codeAny_mono (F.run X.A X.stack s H ⟨us, []⟩ us vs Q E hgd hr I.env0 hb2 r h) fun r' s' hq => ?_)
  match r', hq with
  | .error u, hq => exact hx u s' hq
  | .ok (.ret u), hq => exact I.after hq
  | .ok .next, hq => exact False.elim hq
  | .ok .brk, hq => exact False.elim hq
  | .ok .cont, hq => exact False.elim hq
/-- f(e, ..): what it lets out is what is taken here -/
theorem d_callX (c : Cal X.prog X.w X.K X.mg X.base (L2.CX X.prog X.w) k x n m) (hc : XC X j) (hk : k ≤ j) (tk : Takes X W) (hg : Gl X x) (ha : DA X W (e :: es) mas) (hdb : (x == ("__debug__" : Str)) = false := by decide) (he : starEach (e :: es) X.env = (false, eval e X.env) :: starEach es X.env := by rfl)
    (hpl : (backTo pos (starEach es X.env)).any (·.1) = false := by rfl) : DE X W (.Call (.Name x p) (e :: es) [] pos) (mCallF n m mas) := by
  obtain ⟨f, fd, ps, hm, hkp, hb, hn, F⟩ := c.ex
  refine ⟨fun pins s σ H Q I h => ?_⟩
  obtain ⟨Γ, S, δ, Qd, Ed, c0, hm0, kq, ke⟩ := h
  refine wpAny_Call_Name_kw (ld_glob I hg hm ?_ hdb)
  have ht : tG (RVs X.K) X.K W mas σ H (fun vs H1 => spD X.K n m vs H1 Q (fun c d H' => W c d σ H')) :=
    ⟨Γ, S, δ, _, Ed, c0, hm0, fun Γ1 S1 H1 ds vs e1 R1 r1 q1 => ⟨Γ1, S1, ds, Qd, Ed, q1.1, R1, r1, q1.2, kq.mono e1, fun Γ2 S2 H2 xx cc dd e2 R2 rx q2 => ke Γ2 S2 H2 xx cc dd (e1.trans e2) R2 rx q2⟩, ke⟩
  refine PySem.W.callWith_K (h₀ := X.base) I.ok.mod.kin hkp (thn (ha.run pos pins s σ H _ I ht) fun us s1 ⟨vs, H1, I1, r, q⟩ => ⟨I1.kIn, ?_⟩) he hpl
  exact run_fnG F hc.guards (hc.room.mono hk) hb (fun u s' hq => tk u s' (XE.of_call I1 (fun _ _ _ h => h) hq)) I1 r q
/-- f(e, ..) that lets nothing out -/
theorem d_call (c : Cal X.prog X.w X.K X.mg X.base CX0 k x n m) (hc : XC X j) (hk : k ≤ j) (hg : Gl X x) (ha : DA X W (e :: es) mas) (hdb : (x == ("__debug__" : Str)) = false := by decide) (he : starEach (e :: es) X.env = (false, eval e X.env) :: starEach es X.env := by rfl)
    (hpl : (backTo pos (starEach es X.env)).any (·.1) = false := by rfl) : DE X W (.Call (.Name x p) (e :: es) [] pos) (mCallF n m mas) := by
  obtain ⟨f, fd, ps, hm, hkp, hb, hn, F⟩ := c.ex
  refine ⟨fun pins s σ H Q I h => ?_⟩
  obtain ⟨Γ, S, δ, Qd, Ed, c0, hm0, kq, ke⟩ := h
  refine wpAny_Call_Name_kw (ld_glob I hg hm ?_ hdb)
  have ht : tG (RVs X.K) X.K W mas σ H (fun vs H1 => spD X.K n m vs H1 Q (fun c d H' => W c d σ H')) :=
    ⟨Γ, S, δ, _, Ed, c0, hm0, fun Γ1 S1 H1 ds vs e1 R1 r1 q1 => ⟨Γ1, S1, ds, Qd, Ed, q1.1, R1, r1, q1.2, kq.mono e1, fun Γ2 S2 H2 xx cc dd e2 R2 rx q2 => ke Γ2 S2 H2 xx cc dd (e1.trans e2) R2 rx q2⟩, ke⟩
  refine PySem.W.callWith_K (h₀ := X.base) I.ok.mod.kin hkp (thn (ha.run pos pins s σ H _ I ht) fun us s1 ⟨vs, H1, I1, r, q⟩ => ⟨I1.kIn, ?_⟩) he hpl
  exact run_fnG F hc.guards (hc.room.mono hk) hb (fun u s' hq => hq.elim) I1 r q
end
end DL
/-! D layer, part 8: enumerate, reversed, stores into lists. -/
namespace DL
open PySem PySem.Spec PyProof.Rows L2

/-- the pairs of a tuple's items and their places -/
def ItEt (K : PySem.W.Frag) (a : Addr) : It :=
  ⟨fun i H => ∃ (xs : List V) (x : V), SqT K H a xs ∧ xs[i]? = some x, fun i H v H' => ∃ T x, v = .ref T ∧ H T = none ∧ H' = upd H T (.tup [.int (i : Nat), x]) ∧ ∀ xs, SqT K H a xs → xs[i]? = some x, fun i H => ∃ xs : List V, SqT K H a xs ∧ xs.length ≤ i⟩
theorem turn_enumT {P : Program} {w : World} {K : PySem.W.Frag} {elts : List Expr} {kk : Nat} {tpos : Pos} (a e it : Addr) :
    Turn P w K (.Tuple elts kk tpos) (ItEt K a) [e, it] e (fun i h => (∃ old, IsEnum h e it ((i : Nat) : Int) old) ∧ h.IsTupleIter it a i ∧ e ≠ it) where
  mem := by simp
  obj := fun i h st b hb => by
    obtain ⟨⟨old, he⟩, ⟨o, ho, hc, hd⟩, _⟩ := st
    have e' : b = e ∨ b = it := by simpa using hb
    rcases e' with z | z
    · rw [z]; exact ⟨_, he, fun v q => nomatch q⟩
    · rw [z]; exact ⟨o, ho, fun v q => by rw [hd] at q; cases q⟩
  keep := fun i h h' st k => let ⟨⟨old, he⟩, hi, hne⟩ := st; ⟨⟨old, k e (by simp) _ he⟩, hi.at fun o q => k it (by simp) o q, hne⟩
  item := by
    intro X hP hw hK hc i pins s σ H E I hf st hg
    subst hP hw hK
    obtain ⟨⟨old, he⟩, hit, hne⟩ := st
    obtain ⟨xs, x, hq, hx⟩ := hg
    obtain ⟨its, rv, p, hz⟩ := I.tuple hq
    obtain ⟨u, hu, ru⟩ := rv.get hx
    have hel : e < s.heap.objs.size := Heap.lt_size he
    have hil : it < s.heap.objs.size := by obtain ⟨_, q, _⟩ := hit; exact Heap.lt_size q
    have ht : s.heap.IsTuple a its.toArray := p
    have hai : a ≠ it := fun z => by
      subst z
      obtain ⟨o1, e1, c1, _⟩ := hit
      obtain ⟨o2, e2, c2, _⟩ := p
      rw [e1] at e2
      cases e2
      rw [c1] at c2
      exact absurd c2 (by decide)
    have hae : e ≠ a := fun z => by
      subst z
      obtain ⟨o2, e2, c2, _⟩ := p
      have e1 : s.heap.get? e = _ := he
      rw [e1] at e2
      cases e2
      have c3 : Value.type "enumerate" = Value.type "tuple" := c2
      exact absurd c3 (by decide)
    have hlt : i < its.toArray.size := by
      have := (List.getElem?_eq_some_iff.mp hu).1
      simpa using this
    refine wpAny_pyNext_enum_itemD (Draws.tuple (A := X.A.in1) (I.ok.hd hc) it a hai its.toArray) he ⟨hit, ht⟩ hlt hne (by simp [hae, hne]) fun y h' tk hy ho st' hT hsz hk => ?_
    obtain ⟨hit', ht'⟩ := st'
    have eyu : y = u := by
      have h1 : its.toArray[i]? = some y := hy
      have h2 : its.toArray[i]? = some u := by simpa using hu
      rw [h1] at h2
      exact Option.some.inj h2
    subst eyu
    refine ⟨_, rfl, wpAny_letOwnedTupleGo_enum (s := { s with heap := h', toks := tk + 1 }) ho fun h'' he' sb => ?_⟩
    have hT2 : h''.get? s.heap.objs.size = some { cls := .type "tuple", data := .seq #[.int i tk, y] } := (sb.2 _ (Nat.ne_of_gt hel)).trans hT
    have new : ObjOk X.prog X.w (upd H s.heap.objs.size (.tup [.int (i : Nat), x])) h'' s.heap.objs.size (.tup [.int (i : Nat), x]) :=
      ⟨by show 2 ≤ sizeLine; decide, [.int i tk, y], .cons ⟨_, rfl⟩ (.cons ru .nil), ⟨_, hT2, rfl, _, rfl⟩⟩
    have I1 : Inv X pins σ (upd H s.heap.objs.size (.tup [.int (i : Nat), x])) { s with heap := h'', toks := tk + 1 } :=
      I.turnedNew (ch := [e, it]) (fun b ob hb q => (sb.2 b (fun z => hb (by simp [z]))).trans (hk b ob (fun z => hb (by simp [z])) (fun z => hb (by simp [z])) q)) hf (Nat.le_refl _) new
    refine ⟨.ref s.heap.objs.size, _, I1, rfl, ⟨_, x, rfl, I.hok.fresh (Nat.le_refl _), rfl, fun ys hy => by rw [I.tuple_inj hy hq]; exact hx⟩, ⟨⟨y, ?_⟩, hit'.at fun o q => (sb.2 it (Ne.symm hne)).trans q, hne⟩, fun b hb => ?_⟩
    · have e1 : ((i + 1 : Nat) : Int) = (i : Int) + 1 := by omega
      rw [e1]; exact he'
    · have hb' : b < s.heap.objs.size := by
        have e' : b = e ∨ b = it := by simpa using hb
        rcases e' with z | z
        · rw [z]; exact hel
        · rw [z]; exact hil
      rw [upd_ne (Nat.ne_of_lt hb')]
      exact (hf b hb).1
  done := by
    intro X hP hw hK hc i pins s σ H E I hf st hg
    subst hP hw hK
    obtain ⟨⟨old, he⟩, hit, hne⟩ := st
    obtain ⟨xs, hq, hx⟩ := hg
    obtain ⟨its, rv, p, hz⟩ := I.tuple hq
    obtain ⟨f0, f1, f2, f3, f4, f5⟩ := hf it (by simp)
    have hl := rv.length
    have ht : s.heap.IsTuple a its.toArray := p
    unfold pyNext
    have hT : s.TypeIs (.ref e) "enumerate" := ⟨_, he, rfl⟩
    refine wpAny_bind (wpAny_attempt (wpAny_callSpecial?_slot (name := Str.ofString "__next__") hT F.slot_enumerate_next
      (wpAny_call_entry F.slot_enumerate_next hT F.entry_enumerate_next ?_ (F.args_enumerate_next_1 _))))
    show wpAny _ _ (field (.ref e) 2 >>= _) _ _ _
    refine wpAny_bind (wpAny_field he rfl (x := .ref it) rfl ?_)
    refine wpAny_bind (wpAny_nextOf_tuple_end (A := X.A.in1) (I.ok.hd hc) hit ht (by simp; omega) fun h' x he' hx' => ?_)
    obtain ⟨o, ho, hc'⟩ := hx'
    refine wpAny_bind (wpAny_isInstance (T := "StopIteration") (b := true) ⟨o, ho, hc'⟩ isSubtype_stop ?_)
    exact wpAny_pure ⟨rfl, I.turned (t' := s.toks) (fun b o hb q => he' b o hb q) f0 f1 f3 f4 f5⟩
  self := fun A i s Q E st h => let ⟨⟨_, he⟩, _⟩ := st; wpAny_pyIter_enum he h
theorem meets_enumerate_newT {v : Value} {o : Obj} {H : Heap → Prop} (B : Begins v o H) :
    Meets (Builtin.«enumerate.__new__» ⟨[.type "enumerate", v], []⟩) (fun _ R s => H s.heap ∧
      R (.ok (.ret (.ref (s.heap.push o).objs.size))) { s with heap := (s.heap.push o).push { cls := .type "enumerate", data := .fields #[.none, .bool false, .ref s.heap.objs.size, rawInt 0, .none, .none] } }) :=
  .of_wp fun prog w A R s h => by
    obtain ⟨hp, g, d, tk, os⟩ := s; obtain ⟨h1, h⟩ := h
    have hsub := sub_enumerate
    have q1 : ∀ {A' : Around} {E : Value → Shared → Prop} {Q : Value → Shared → Prop}, Q (.ref hp.objs.size) ⟨hp.push o, g, d, tk, os⟩ → wpAny (model prog w) A' (pyIter v) Q E ⟨hp, g, d, tk, os⟩ :=
      fun q => B.iter prog w _ _ ⟨hp, g, d, tk, os⟩ _ h1 q
    wp_walk using q1
    refine wpAny_stack_any fun st => wpAny_pure ?_
    split
    · rename_i c _ _ _ _ _
      cases (c == Value.type "enumerate")
      · wp_walk using q1
        exact ⟨_, rfl, h⟩
      · wp_walk using q1
        exact ⟨_, rfl, h⟩
    · wp_walk using q1
      exact ⟨_, rfl, h⟩
section
variable {prog : Program} {w : World} {A : Around} {E : Value → Shared → Prop} {s : Shared}
theorem enum_beginsT {v : Value} {o : Obj} {H : Heap → Prop} {Q : Value → Shared → Prop} (B : Begins v o H) (h1 : H s.heap)
    (h : ∀ h', IsEnum h' (s.heap.objs.size + 1) s.heap.objs.size 0 .none → h'.get? s.heap.objs.size = some o → h'.objs.size = s.heap.objs.size + 2 →
      (∀ b o, s.heap.get? b = some o → h'.get? b = some o) → Q (.ref (s.heap.objs.size + 1)) { s with heap := h' }) :
    wpAny (model prog w) A (call (.type "enumerate") [v]) Q E s := by
  refine callType_new F.called_enumerate (by decide) (F.typeCall_enumerate_1 _) (F.newCall_enumerate_1 _) (fun obj => F.args_object_init_2 obj _) F.entry_enumerate_new
    (meets_enumerate_newT B) ⟨h1, ?_⟩
  have hz : (s.heap.push o).objs.size = s.heap.objs.size + 1 := Heap.size_push ..
  show _ ∧ _
  rw [hz]
  have he : IsEnum ((s.heap.push o).push { cls := .type "enumerate", data := .fields #[.none, .bool false, .ref s.heap.objs.size, rawInt 0, .none, .none] }) (s.heap.objs.size + 1) s.heap.objs.size 0 .none := by
    have := Heap.get?_push_size (s.heap.push o) (o := { cls := .type "enumerate", data := .fields #[.none, .bool false, .ref s.heap.objs.size, rawInt 0, .none, .none] }) rfl
    rw [hz] at this; exact this
  refine ⟨⟨_, he, rfl⟩, h _ he (Heap.get?_push_of_some _ (Heap.get?_push_size _ B.free)) (by rw [Heap.size_push, hz]) fun b o x => Heap.get?_push_of_some _ (Heap.get?_push_of_some _ x)⟩
end
def iEnumA (K : PySem.W.Frag) (ta : TA) : TI := fun σ H R => ta σ H fun vs H1 => ∃ a xs, vs = [.ref a] ∧ ((SqL K H1 a xs ∧ R (Ite K a) H1) ∨ (SqT K H1 a xs ∧ R (ItEt K a) H1))
theorem pi_enumA {X : Cx} {e : Expr} {ta : TA} {p pos tpos : Pos} {elts : List Expr} {kk : Nat} (hg : Gl X "enumerate") (hm : X.mg "enumerate" = none) (ha : PA X [e] ta) (hs : starEach [e] X.env = [(false, eval e X.env)] := by rfl) :
    PI X (.Tuple elts kk tpos) (.Call (.Name "enumerate" p) [e] [] pos) (iEnumA X.K ta) := by
  refine ⟨fun pins s σ H R I h => ?_⟩
  refine Call_ (ld_blt I hg hm boot_enumerate (PyProof.Rows.callWith_type1 (thn (ha.run pos pins s σ H _ I h) fun us s1 ⟨vs, H1, I1, r1, q1⟩ => ?_) hs rfl))
  obtain ⟨a, xs, ex, q⟩ := q1
  subst ex
  cases r1 with
  | cons r rr =>
    cases rr
    cases r
    have fpk : ∀ b, b ∈ [s1.heap.objs.size + 1, s1.heap.objs.size] → s1.heap.objs.size ≤ b := fun b hb => by
      have e' : b = s1.heap.objs.size + 1 ∨ b = s1.heap.objs.size := by simpa using hb
      rcases e' with z | z
      · rw [z]; exact Nat.le_add_right _ _
      · rw [z]; exact Nat.le_refl _
    rcases q with ⟨hq, q⟩ | ⟨hq, q⟩
    · obtain ⟨its, rv, p', hz⟩ := I1.list hq
      refine call_enumerate_list p'.isList fun h' he hit hsz hk => wpAny_pyIter_enum he ?_
      have I2 : Inv X pins σ H1 { s1 with heap := h' } := I1.kept (t' := s1.toks) hk
      exact ⟨s1.heap.objs.size + 1, [s1.heap.objs.size + 1, s1.heap.objs.size], _, _, H1, rfl, I2, turn_enum a (s1.heap.objs.size + 1) s1.heap.objs.size, ⟨⟨.none, he⟩, hit, Nat.succ_ne_self _⟩, fun b hb => I1.fpOk (fpk b hb) (I1.hok.fresh (fpk b hb)), q⟩
    · obtain ⟨its, rv, p', hz⟩ := I1.tuple hq
      refine enum_beginsT (begins_tuple a its.toArray) p' fun h' he hit hsz hk => wpAny_pyIter_enum he ?_
      have I2 : Inv X pins σ H1 { s1 with heap := h' } := I1.kept (t' := s1.toks) hk
      exact ⟨s1.heap.objs.size + 1, [s1.heap.objs.size + 1, s1.heap.objs.size], _, _, H1, rfl, I2, turn_enumT a (s1.heap.objs.size + 1) s1.heap.objs.size, ⟨⟨.none, he⟩, ⟨_, hit, rfl, rfl⟩, Nat.succ_ne_self _⟩, fun b hb => I1.fpOk (fpk b hb) (I1.hok.fresh (fpk b hb)), q⟩
theorem itd_enumT {K : PySem.W.Frag} {Γ : AG} {p : Addr} {vs : List V} {ds : List DV} (h1 : SqT K Γ.G p vs) (h2 : RVs K Γ ds vs) : ItD K Γ (ItEt K p) (enum 0 ds) := fun Γ' S' H' E R i => by
  have hq : SqT K H' p vs := sqT_sub R.sub (sqT_sub E.sub h1)
  refine ⟨fun hi => ⟨vs, hq, by rw [enum_len] at hi; rw [← h2.length]; exact hi⟩, fun d e => ?_⟩
  obtain ⟨x, ex, rfl⟩ := enum_get 0 ds i d e
  obtain ⟨v, k1, k2⟩ := h2.get ex
  refine ⟨⟨vs, v, hq, k1⟩, fun z H'' yl => ?_⟩
  obtain ⟨T, x', rfl, hT, rfl, y1⟩ := yl
  have e1 := y1 vs hq
  rw [k1] at e1
  cases e1
  refine itd_pair R hT ?_ (RV.mono E _ _ k2)
  show V.int ((i : Nat) : Int) = V.int ((0 + i : Nat) : Int)
  rw [Nat.zero_add]
theorem inv_enum {ds : List DV} {P : List DV → Prop} (h : (match ds with
  | [.tup xs] => P xs
  | [.lst xs] => P xs
  | _ => False)) : ∃ xs, (ds = [.tup xs] ∨ ds = [.lst xs]) ∧ P xs := by
  cases ds with
  | nil => exact h.elim
  | cons d r =>
    cases r with
    | nil => cases d <;> first | exact ⟨_, .inl rfl, h⟩ | exact ⟨_, .inr rfl, h⟩ | exact False.elim h
    | cons d2 r => cases d <;> exact False.elim h
/-! ### reversed -/
theorem rev_pick (its : List Value) : ((List.range its.toArray.size).filterMap fun (k : Nat) => its.toArray[(((its.toArray.size : Int) - 1) + (k : Int) * (-1)).toNat]?).toArray = its.reverse.toArray := by
  refine congrArg List.toArray ?_
  rw [List.size_toArray]
  have e : (fun (k : Nat) => its.toArray[(((its.length : Int) - 1) + (k : Int) * (-1)).toNat]?) = fun k => if k < its.length then its.reverse[k]? else its[0]? := by
    funext k
    by_cases h : k < its.length
    · rw [if_pos h, List.getElem?_reverse h]
      have : (((its.length : Int) - 1) + (k : Int) * (-1)).toNat = its.length - 1 - k := by omega
      rw [this]
      simp
    · rw [if_neg h]
      have : (((its.length : Int) - 1) + (k : Int) * (-1)).toNat = 0 := by omega
      rw [this]
      simp
  rw [e]
  have e2 : (List.range its.length).filterMap (fun k => if k < its.length then its.reverse[k]? else its[0]?) = (List.range its.reverse.length).filterMap (fun k => its.reverse[k]?) := by
    rw [List.length_reverse]
    have gen : ∀ (l : List Nat), (∀ k ∈ l, k < its.length) → l.filterMap (fun k => if k < its.length then its.reverse[k]? else its[0]?) = l.filterMap (fun k => its.reverse[k]?) := by
      intro l
      induction l with
      | nil => exact fun _ => rfl
      | cons k l ih =>
        intro h
        rw [List.filterMap_cons, List.filterMap_cons, ih fun j hj => h j (List.mem_cons_of_mem _ hj)]
        rw [if_pos (h k List.mem_cons_self)]
    exact gen _ fun k hk => List.mem_range.mp hk
  rw [e2]
  generalize its.reverse = ys
  induction ys with
  | nil => rfl
  | cons y ys ih =>
    rw [List.length_cons, List.range_succ_eq_map, List.filterMap_cons, List.filterMap_map]
    show y :: _ = y :: ys
    exact congrArg _ ih
section
variable {prog : Program} {w : World} {A : Around} {E : Value → Shared → Prop} {s : Shared}
theorem getItem_tuple_rev {t sl : Addr} {its : List Value} {vs : Value} {Q : Value → Shared → Prop} (ht : IsTup s.heap t its.toArray) (hs : s.heap.IsSliceOf sl .none .none vs) (ps : IsPart vs (some (-1)))
    (h : Q (.ref s.heap.objs.size) { s with heap := s.heap.push { cls := .type "tuple", data := .seq its.reverse.toArray } })
    (hsz : its.length ≤ sizeLine) : wpAny (model prog w) A (getItem (.ref t) (.ref sl)) Q E s := by
  have htake : sizeOk (.seq its.reverse.toArray) := by
    show its.reverse.toArray.size ≤ sizeLine
    rw [List.size_toArray, List.length_reverse]
    exact hsz
  obtain ⟨os, hos, hcs, hds⟩ := id hs
  have hTs : s.TypeIs (.ref sl) "slice" := ⟨os, hos, hcs⟩
  unfold getItem
  try with_reducible refine wpAny_holding ?_
  first | refine wpAny_bind (wpAny_pure ?_) | skip
  refine wpAny_bind (wpAny_sequenceKey ht.typeIs (by decide) ?_)
  refine wpAny_bind (wpAny_callSpecial?_slot (name := Str.ofString "__getitem__") ht.typeIs PyProof.Rows.slot_tuple_getitem
    (wpAny_call_entry PyProof.Rows.slot_tuple_getitem ht.typeIs entry_tuple_getitem ?_ (args_tuple_getitem _ _)))
  show wpAny _ _ (Builtin.Tuple.tupleItemsOf (.ref t) >>= _) _ _ s
  refine wpAny_bind (tupleItemsOf_ ht ?_)
  refine wpAny_bind (wpAny_typeOf hTs ?_)
  rw [if_pos (by decide)]
  have hap : wpAny (model prog w) A.in1 (Builtin.Slice.sliceApplied (.ref sl) (pure (its.toArray.size : Int))) (fun r s' => r = ((its.toArray.size : Int) - 1, -1, its.toArray.size) ∧ s' = s) E s := by
    unfold Builtin.Slice.sliceApplied Builtin.Slice.sliceFields
    refine wpAny_bind (wpAny_bind (wpAny_field hos hds (x := .none) rfl (wpAny_bind (wpAny_field hos hds (x := .none) rfl (wpAny_bind (wpAny_field hos hds (x := vs) rfl (wpAny_pure ?_)))))))
    refine wpAny_bind (HT.slicePart_ ps ?_)
    show wpAny _ _ (if ((-1 : Int) == 0) = true then _ else _) _ _ s
    rw [if_neg (by decide)]
    refine wpAny_bind (HT.slicePart_ .none (wpAny_bind (HT.slicePart_ .none (wpAny_bind (wpAny_pure ?_)))))
    show wpAny _ _ (match Builtin.Slice.sliceAdjust none none (-1) (its.toArray.size : Int) with | (lo, hi) => pure (lo, (-1 : Int), Builtin.Slice.slicePlaces lo hi (-1))) _ _ s
    have ea : Builtin.Slice.sliceAdjust none none (-1) (its.toArray.size : Int) = ((its.toArray.size : Int) - 1, -1) := by
      unfold Builtin.Slice.sliceAdjust
      simp
    rw [ea]
    show wpAny _ _ (pure ((its.toArray.size : Int) - 1, (-1 : Int), Builtin.Slice.slicePlaces ((its.toArray.size : Int) - 1) (-1) (-1))) _ _ s
    have ep : Builtin.Slice.slicePlaces ((its.toArray.size : Int) - 1) (-1) (-1) = its.toArray.size := by
      unfold Builtin.Slice.slicePlaces
      simp
      omega
    rw [ep]
    exact wpAny_pure ⟨rfl, rfl⟩
  refine wpAny_bind (wpAny_mono hap (fun r s' hr => ?_) fun _ _ q => q)
  obtain ⟨rfl, rfl⟩ := hr
  have hno : ¬ ((((its.toArray.size : Int) - 1 == 0 && (-1 : Int) == 1 && its.toArray.size == its.toArray.size) = true)) := by
    intro q
    rw [Bool.and_eq_true, Bool.and_eq_true] at q
    exact absurd (eq_of_beq q.1.2) (by decide)
  show wpAny _ _ (if (((its.toArray.size : Int) - 1 == 0 && (-1 : Int) == 1 && its.toArray.size == its.toArray.size) = true) then _ else _) _ _ s'
  rw [if_neg hno, rev_pick]
  first
    | exact wpAny_bind (m := Builtin.Tuple.tupleExact _) (wpAny_newObj_type (wpAny_pure ⟨_, rfl, wpAny_pure h⟩) htake)
    | exact wpAny_bind (m := Builtin.Tuple.tupleExact _) (wpAny_newObj_type (wpAny_bind (wpAny_pure (wpAny_pure ⟨_, rfl, wpAny_pure h⟩))) htake)
    | exact wpAny_bind (wpAny_bind (m := Builtin.Tuple.tupleExact _) (wpAny_newObj_type (wpAny_pure (wpAny_pure ⟨_, rfl, wpAny_pure h⟩)) htake))
    | exact wpAny_bind (wpAny_bind (m := Builtin.Tuple.tupleExact _) (wpAny_newObj_type (wpAny_pure ⟨_, rfl, wpAny_pure h⟩) htake))
end
def tRevLT (K : PySem.W.Frag) (te : TE) : TE := fun σ H Q => te σ H fun x H1 => ∃ a xs, x = .ref a ∧ ((SqL K H1 a xs ∧ ∀ p, H1 p = none → Q (.ref p) (upd H1 p (.lst xs.reverse))) ∨ (SqT K H1 a xs ∧ ∀ p, H1 p = none → Q (.ref p) (upd H1 p (.tup xs.reverse))))
section
variable {X : Cx} {W : WX} {e tg iter : Expr} {me : ME} {mas : MA} {pos p tpos : Pos} {elts : List Expr} {kk : Nat}
theorem pe_revLT {te : TE} {k : Nat} {p1 p2 p3 : Pos} (he : PE X e te) : PE X (.Subscript e (.Slice none none (some (.UnaryOp .USub (.Constant (.int 1) k p1) p2)) p3) pos) (tRevLT X.K te) := by
  refine ⟨fun pins s σ H Q I h => ?_⟩
  refine Subscript_ (thn (he.run pins s σ H _ I h) fun v s1 ⟨x, H1, I1, r1, q1⟩ => ?_)
  obtain ⟨a, xs, ex, q⟩ := q1
  subst ex
  cases r1
  have hst : PO X (some (.UnaryOp .USub (.Constant (.int 1) k p1) p2)) (tPart (tUn (rU fun i => .int (-i)) (tC (.int 1)))) := po_some (pe_un un_neg pe_int)
  refine wpAny_Slice (thn (po_none.run pins s1 σ H1 (fun o H2 => o = none ∧ H2 = H1) I1 ⟨rfl, rfl⟩) fun vl s2 ⟨l, H2, I2, pl, el, e2⟩ => ?_)
  subst el e2
  refine thn (po_none.run pins s2 σ H2 (fun o H3 => o = none ∧ H3 = H2) I2 ⟨rfl, rfl⟩) fun vu s3 ⟨u, H3, I3, pu, eu, e3⟩ => ?_
  subst eu e3
  refine thn (hst.run pins s3 σ H3 (fun o H4 => o = some (-1) ∧ H4 = H3) I3 ⟨1, rfl, -1, rfl, rfl, rfl⟩) fun vs s4 ⟨o, H4, I4, ps, eo, e4⟩ => ?_
  subst eo e4
  have I5 : Inv X pins σ H4 { s4 with heap := s4.heap.push { cls := .type "slice", data := .fields #[vl, vu, vs] } } := I4.kept (t' := s4.toks) fun b ob q => Heap.get?_push_of_some _ q
  show wpAny (model X.prog X.w) X.A (subscriptTail e (.Slice none none (some (.UnaryOp .USub (.Constant (.int 1) k p1) p2)) p3) (.ref a) (.ref s4.heap.objs.size)) (EP X pins σ Q) X.xe { s4 with heap := s4.heap.push { cls := .type "slice", data := .fields #[vl, vu, vs] } }
  rcases q with ⟨hx, q⟩ | ⟨hx, q⟩
  · obtain ⟨its, r, ht, hz⟩ := I5.list hx
    have hlen := r.length
    refine tail_any (ops := [.ref a, .ref s4.heap.objs.size]) ht.isList.typeIs (PySem.slot_list_getitem.lookup) ?_ (by with_unfolding_all rfl)
    refine wpAny_getItem_list_slice ht.isList (Heap.IsSliceOf.new _ vl vu vs) pl pu ps (by decide) ?_ (by rw [List.size_toArray]; omega)
    rw [PySem.W.krv_pick]
    refine ⟨.ref _, _, I5.laid (t' := s4.toks) (o := .lst xs.reverse) (fun b ob q => Heap.get?_push_of_some _ q) (Nat.le_refl _) ?_, rfl, q _ (I5.hok.fresh (Nat.le_refl _))⟩
    exact ⟨by rw [List.length_reverse]; exact hz, _, 0, r.reverse, Heap.get?_push_size _ rfl⟩
  · obtain ⟨its, r, ht, hz⟩ := I5.tuple hx
    have hlen := r.length
    cases pl
    cases pu
    refine tail_any (ops := [.ref a, .ref s4.heap.objs.size]) ht.typeIs (PyProof.Rows.slot_tuple_getitem.lookup) ?_ (by with_unfolding_all rfl)
    refine getItem_tuple_rev ht (Heap.IsSliceOf.new _ .none .none vs) ps ?_ (by omega)
    refine ⟨.ref _, _, I5.laid (t' := s4.toks) (o := .tup xs.reverse) (fun b ob q => Heap.get?_push_of_some _ q) (Nat.le_refl _) ?_, rfl, q _ (I5.hok.fresh (Nat.le_refl _))⟩
    exact ⟨by rw [List.length_reverse]; exact hz, _, r.reverse, ⟨_, Heap.get?_push_size _ rfl, rfl, _, rfl⟩⟩
theorem RVs.rev {K : PySem.W.Frag} {Γ : AG} : ∀ {ds : List DV} {vs : List V}, RVs K Γ ds vs → RVs K Γ ds.reverse vs.reverse
  | [], vs, r => by cases (show vs = [] from r); exact (rfl : ([] : List V) = [])
  | d :: ds, vs, r => by
    obtain ⟨v, us, rfl, h1, h2⟩ := r
    rw [List.reverse_cons, List.reverse_cons]
    exact (RVs.rev h2).snoc h1
theorem d_rev {k : Nat} {p1 p2 p3 : Pos} (he : DE X W e me) : DE X W (.Subscript e (.Slice none none (some (.UnaryOp .USub (.Constant (.int 1) k p1) p2)) p3) pos) (mUn fRev me) :=
  PE.imp (pe_revLT he) fun σ H Q ⟨Γ, S, δ, Qd, Ed, c, m, kq, ke⟩ => ⟨Γ, S, δ, _, Ed, c, m, fun Γ1 S1 H1 d1 v1 e1 R1 r1 q1 => by
    cases d1 with
    | tup ds =>
      obtain ⟨p, vs, rfl, h2, h3⟩ := R1.tup r1
      exact ⟨p, vs, rfl, .inr ⟨h2, fun q hq => (kq.mono e1).newT R1 hq h3.rev q1⟩⟩
    | lst ds =>
      obtain ⟨p, vs, rfl, h2, h3⟩ := R1.lst r1
      exact ⟨p, vs, rfl, .inl ⟨SqL.of h2, fun q hq => (kq.mono e1).newL R1 hq h3.rev q1⟩⟩
    | _ => exact False.elim q1, ke⟩
/-! ### o[i] = v -/
/-- the store of a list's item -/
def gSetL (a i : ME) : MG := fun d δ S Q => a δ S (fun o S1 => i δ S1 (fun k S2 => match o, k with
  | .ref p, .int j => (match S2[p]? with
    | some (some (.lst ds)) => (match ixN ds.length j with
      | some n => Q δ (S2.set p (some (.lst (ds.set n d))))
      | none => False)
    | _ => False)
  | _, _ => False) noE) noE
theorem RVs.set {K : PySem.W.Frag} {Γ : AG} : ∀ {ds : List DV} {vs : List V} {d : DV} {v : V} (n : Nat), RVs K Γ ds vs → RV K Γ d v → RVs K Γ (ds.set n d) (vs.set n v)
  | [], vs, d, v, n, r, h => by cases (show vs = [] from r); exact (rfl : ([] : List V) = [])
  | x :: ds, vs, d, v, 0, r, h => by
    obtain ⟨u, us, rfl, h1, h2⟩ := r
    exact ⟨v, us, rfl, h, h2⟩
  | x :: ds, vs, d, v, n + 1, r, h => by
    obtain ⟨u, us, rfl, h1, h2⟩ := r
    exact ⟨u, us.set n v, rfl, h1, RVs.set n h2 h⟩
theorem dg_setL {o i : Expr} {mo mi : ME} (ho : DE X noW o mo) (hi : DE X noW i mi)
    (ha : ∀ v, assign (.Subscript o i pos) X.env v = (do
      let ov ← holding [v] (eval o X.env)
      let iv ← holding [v, ov] (eval i X.env)
      standAt pos
      holding [v, ov, iv] (setItem ov iv v)
      release [v, ov, iv] []) := by intro _; rfl) : DG X (.Subscript o i pos) (gSetL mo mi) :=
  PG.imp (pg_sub ho hi set_list ha) fun v σ H Q ⟨Γ, S, δ, d, Qd, c, r, m, k⟩ =>
    ⟨Γ, S, δ, _, noE, c, m, fun Γ1 S1 H1 d1 v1 e1 R1 r1 q1 => ⟨Γ1, S1, δ, _, noE, c.mk' R1 e1, q1, fun Γ2 S2 H2 d2 v2 e2 R2 r2 q2 => by
      cases d1 with
      | ref p =>
        cases d2 with
        | int j =>
          cases r2.int
          have q3 : (match S2[p]? with
            | some (some (.lst ds)) => (match ixN ds.length j with
              | some n => Qd δ (S2.set p (some (.lst (ds.set n d))))
              | none => False)
            | _ => False) := q2
          match es : S2[p]? with
          | some (some (.lst ds)) =>
            rw [es] at q3
            have q4 : (match ixN ds.length j with
              | some n => Qd δ (S2.set p (some (.lst (ds.set n d))))
              | none => False) := q3
            obtain ⟨a, ea, ha, ho⟩ := R2.ref (RV.mono e2 _ _ r1) es
            obtain ⟨vs, eh, rv⟩ := ho
            cases en : ixN ds.length j with
            | none =>
              rw [en] at q4
              exact q4.elim
            | some n =>
              rw [en] at q4
              refine ⟨a, vs, j, n, ea, rfl, eh, by rw [← RVs.length (Γ := Γ2) rv]; exact en, ?_⟩
              exact k Γ2 _ _ δ σ (e1.trans e2) ((c.mk' R2 (e1.trans e2)).mk' (R2.write (d := .lst (ds.set n d)) es ha ⟨_, rfl, RVs.set (Γ := Γ2) n rv (RV.mono (e1.trans e2) _ _ r)⟩) (Ext.refl _)) q4
          | some (some (.ins _ _)) => rw [es] at q3; exact q3.elim
          | some (some (.dct _)) => rw [es] at q3; exact q3.elim
          | some none => rw [es] at q3; exact q3.elim
          | none => rw [es] at q3; exact q3.elim
        | _ => exact False.elim q2
      | _ => exact False.elim q2, fun _ _ _ _ _ _ _ _ _ z => z.elim⟩, fun _ _ _ _ _ _ _ _ _ z => z.elim⟩
theorem di_enum (hg : Gl X "enumerate") (hm : X.mg "enumerate" = none) (ha : DA X W [e] mas) (hs : starEach [e] X.env = [(false, eval e X.env)] := by rfl) :
    DI X W (.Tuple elts kk tpos) (.Call (.Name "enumerate" p) [e] [] pos) (iE mas) :=
  PI.imp (pi_enumA hg hm ha hs) fun σ H R ⟨Γ, S, δ, Qd, Ed, c, m, kq, ke⟩ => ⟨Γ, S, δ, _, Ed, c, m, fun Γ1 S1 H1 ds vs e1 R1 r1 q1 => by
    obtain ⟨xs, rfl | rfl, q1⟩ := inv_enum q1
    · obtain ⟨v, rfl, ⟨a, as, rfl, h1, h2⟩⟩ := r1.one
      exact ⟨a, as, rfl, .inr ⟨sqT_sub R1.sub h1, kq Γ1 S1 H1 _ _ e1 R1 (itd_enumT h1 h2) q1⟩⟩
    · obtain ⟨v, rfl, ⟨a, as, rfl, h1, h2⟩⟩ := r1.one
      exact ⟨a, as, rfl, .inl ⟨SqL.of (R1.sub _ _ h1), kq Γ1 S1 H1 _ _ e1 R1 (itd_enumL (SqL.of h1) h2) q1⟩⟩, ke⟩
end
end DL
/-! D layer, part 9: the law's end. -/
namespace DL
open PySem PySem.Spec PyProof.Rows L2

def intsV (ns : List Int) : List DV := ns.map DV.int
theorem rvs_ints {K : PySem.W.Frag} {Γ : AG} : ∀ ns : List Int, RVs K Γ (intsV ns) (ns.map V.int)
  | [] => (rfl : ([] : List V) = [])
  | n :: ns => ⟨.int n, ns.map V.int, rfl, rfl, rvs_ints ns⟩
/-- a law over the script: true, whatever the script holds -/
def LawG (n : Nat) (m : GX) : Prop := ∀ ns : List Int, ns.length ≤ n → (∀ z ∈ ns, Builtin.Int.intBits z ≤ 1048576) → m [.frz (intsV ns)] [] (fun d _ => d = .bl true) noE
/-- the law's run over a heap in which the script alone may be known -/
theorem law_coreD {P : Program} {w : World} {K : PySem.W.Frag} {mg mb : Str → Option Value} {CX : CXT} {k : Nat} {fa a : Addr} {fd : FuncData} {x : Str} {m : GX} {s₁ : Shared} {vs : List Value} {ns : List Int} {H : Hp}
    (KX : K.In s₁.heap) (hns : s₁.heap.Ns mainGlobals mg) (hb : s₁.heap.Ns builtinsNs mb) (hbb : ∀ x : Str, x ≠ "__name__" → mb x = bootBuiltins x) (hlim : s₁.heap.NoLimit) (hg : s₁.gens = #[])
    (ha : s₁.heap.get? a = some { cls := .type "list", data := .seq vs.toArray }) (hr : Room k callerA)
    (F : ∀ base : Heap, K.In base → base.Ns mainGlobals mg → FnG P w K mg base CX k fa fd [x] (spD K 1 m)) (hbind : ∀ (s : Shared) (u : Value), BindsTo s fd ⟨[u], []⟩ [(x, u)])
    (hm : m [.frz (intsV ns)] [] (fun d _ => d = .bl true) noE) (hCX : ∀ H e s', CX [] H s₁ (fun _ _ _ => False) e s' → False)
    (hO : Only H) (hS : SqL K H a (ns.map V.int)) (hok : HOk P w H s₁.heap) (hA : ∀ b, H b ≠ none → b = a) (hK : H a ≠ none → K.lookup a = none) :
    codeAny (model P w) callerA (.call (.ref fa) ⟨[.ref a], []⟩) (fun r s' => r = .ok (.ret (.bool true)) ∧ OldK s₁.heap s'.heap ∧ s'.os = s₁.os ∧ AllBare s'.gens) s₁ := by
  have keepB : ∀ {b : Addr} {o : Obj}, s₁.heap.get? b = some o → H b = none → (hidT s₁.heap H).get? b = some o := fun e n => hidT_get e n
  have notA : ∀ {b : Addr} {o : Obj} {es : Array DictEntry} {ep : Nat}, s₁.heap.get? b = some o → o.data = .dict es ep → H b = none := fun {b o es ep} e d => by
    rcases hO b with q | ⟨o2, xs, q⟩
    · exact q
    · have e' : b = a := hA b (by rw [q]; exact fun z => nomatch z)
      rw [e', ha] at e
      cases e
      exact nomatch (show Data.seq vs.toArray _ = Data.dict es ep from d)
  have nsB : ∀ {b : Addr} {m : Str → Option Value}, s₁.heap.Ns b m → (hidT s₁.heap H).Ns b m := fun {b m} ⟨o, es, ep, e, d, r⟩ => ⟨o, es, ep, keepB e (notA e d), d, r⟩
  have inB : K.In (hidT s₁.heap H) := fun b o e => keepB (KX b o e) (by
    rcases hO b with q | ⟨o2, xs, q⟩
    · exact q
    · have hn : H b ≠ none := by rw [q]; exact fun z => nomatch z
      have e' : b = a := hA b hn
      rw [e'] at hn e
      rw [hK hn] at e
      cases e)
  have modB : Mod K mg (hidT s₁.heap H) := ⟨inB, nsB hns, ⟨mb, nsB hb, hbb⟩, let ⟨mc, h1, h2⟩ := hlim; ⟨mc, nsB h1, h2⟩⟩
  have e0 : Env0 P w K mg (hidT s₁.heap H) callerA [] s₁ H := ⟨rfl, modB, fun b o e => of_hidT e, Nat.le_of_eq (hidT_size _ _), trivial, fun b hb => (nomatch (show b ∈ ([] : List Addr) from hb)), hok, .of_eq hg⟩
  have Rd : Rs K ⟨[], H, fun _ => none, []⟩ [] H := ⟨fun _ _ h => h, rfl, fun i d e => (by simp at e), fun b o e => (nomatch (show (none : Option HO) = some o from e)), fun b o e => (nomatch (show (none : Option HO) = some o from e)), fun i a d e => (by simp at e), fun i j a d u e h => (by simp at e), fun q h => (nomatch h)⟩
  have sp0 : spD K 1 m [.ref a] H (fun v _ => v = .bl true) fun _ _ _ => False :=
    ⟨⟨[], H, fun _ => none, []⟩, [], [.frz (intsV ns)], _, _, rfl, Rd, ⟨.ref a, [], rfl, ⟨a, ns.map V.int, rfl, hS, rvs_ints ns⟩, rfl⟩, hm, fun Γ' S' H' d v _ _ r q => by
      have q' : d = .bl true := q
      rw [q'] at r
      exact r, fun _ _ _ _ _ _ _ _ _ q => q.elim⟩
  refine codeAny_mono ((F _ inB (nsB hns)).run callerA [] s₁ H ⟨[.ref a], []⟩ [.ref a] [.ref a] _ _ rfl hr e0 (hbind s₁ (.ref a)) (.cons rfl .nil) sp0) fun r s' h => ?_
  match r, h with
  | .error e, h => exact (hCX H e s' h).elim
  | .ok .next, h => exact False.elim h
  | .ok .brk, h => exact False.elim h
  | .ok .cont, h => exact False.elim h
  | .ok (.ret u), h =>
    obtain ⟨v, H', os, bare, un, hok', r', q⟩ := h
    have q' : v = .bl true := q
    rw [q'] at r'
    obtain rfl : u = Value.bool true := r'
    refine ⟨rfl, OldK.of_keep fun b o e => ?_, os, bare⟩
    rcases hO b with z | ⟨ob, xs, z⟩
    · exact un.keep b o e z (fun y => nomatch (show b ∈ ([] : List Addr) from y)) (by simp)
    · obtain ⟨e1, _⟩ := hok b _ z
      obtain ⟨e2, _⟩ := hok' b _ (un.frzs b ob _ z)
      rw [e] at e1
      cases e1
      exact e2
theorem law_callD {P : Program} {w : World} {K : PySem.W.Frag} {mg mb : Str → Option Value} {CX : CXT} {k : Nat} {fa a : Addr} {fd : FuncData} {x : Str} {m : GX} {s₁ : Shared} {vs : List Value} {ns : List Int}
    (KX : K.In s₁.heap) (hns : s₁.heap.Ns mainGlobals mg) (hb : s₁.heap.Ns builtinsNs mb) (hbb : ∀ x : Str, x ≠ "__name__" → mb x = bootBuiltins x) (hlim : s₁.heap.NoLimit) (hg : s₁.gens = #[])
    (ha : s₁.heap.get? a = some { cls := .type "list", data := .seq vs.toArray }) (hi : IntsAre vs ns) (hl : ns.length ≤ sizeLine) (hr : Room k callerA)
    (F : ∀ base : Heap, K.In base → base.Ns mainGlobals mg → FnG P w K mg base CX k fa fd [x] (spD K 1 m)) (hbind : ∀ (s : Shared) (u : Value), BindsTo s fd ⟨[u], []⟩ [(x, u)])
    (hm : m [.frz (intsV ns)] [] (fun d _ => d = .bl true) noE) (hCX : ∀ H e s', CX [] H s₁ (fun _ _ _ => False) e s' → False) :
    codeAny (model P w) callerA (.call (.ref fa) ⟨[.ref a], []⟩) (fun r s' => r = .ok (.ret (.bool true)) ∧ OldK s₁.heap s'.heap ∧ s'.os = s₁.os ∧ AllBare s'.gens) s₁ := by
  have rv := vals_ints hi
  have lenV := hi.length
  cases hk : K.lookup a with
  | some o =>
    have e := KX a o hk
    rw [ha] at e
    cases e
    exact law_coreD (H := fun _ => none) KX hns hb hbb hlim hg ha hr F hbind hm hCX (fun _ => .inl rfl) (.inr ⟨_, vs.toArray, _, hk, rfl, rfl, rfl, by rw [List.size_toArray, lenV]; exact hl, by simpa using rv⟩) (fun b u z => (nomatch (show (none : Option HO) = some u from z))) (fun b z => absurd rfl z) fun z => absurd rfl z
  | none =>
    refine law_coreD (H := upd (fun _ => none) a (.frz { cls := .type "list", data := .seq vs.toArray } (.lst (ns.map V.int)))) KX hns hb hbb hlim hg ha hr F hbind hm hCX (fun b => ?_) (.inl (.inr ⟨_, upd_same⟩)) (fun b u z => ?_) (fun b z => ?_) fun _ => hk
    · by_cases hb : b = a
      · rw [hb]
        exact .inr ⟨_, _, upd_same⟩
      · exact .inl (upd_ne hb)
    · by_cases hb : b = a
      · rw [hb, upd_same] at z
        cases z
        rw [hb]
        exact ⟨ha, by rw [List.length_map]; exact hl, vs, _, rv, ha⟩
      · rw [upd_ne hb] at z
        cases z
    · by_cases hb : b = a
      · exact hb
      · exact absurd (upd_ne hb) z
theorem walk_ofD {l : PySem.W.OpenLaw} {n k : Nat} {q : Program} {loose : List Str} {XP : (Str → Option Value) → Heap → Prop} {YP : World → Heap → Prop} {d : DefRec} {CX : CXT} {x : Str} {m : GX}
    (hn : l.most = some n) (hn2 : n ≤ sizeLine) (hdf : d.params.defaults = []) (hr : Room k callerA) (hm : LawG n m)
    (F : ∀ (w : World) (mg : Str → Option Value) (fa : Addr) (h : Heap), YP w h → h.Ns mainGlobals mg → mg d.name = some (.ref fa) →
      ∃ (K : PySem.W.Frag) (fd : FuncData), K.In h ∧ (∀ (s : Shared) (u : Value), BindsTo s fd ⟨[u], []⟩ [(x, u)]) ∧
        ∀ base : Heap, K.In base → base.Ns mainGlobals mg → FnG l.prog w K mg base CX k fa fd [x] (spD K 1 m))
    (hCX : ∀ (H : Hp) (s : Shared) (e : Value) (s' : Shared), CX [] H s (fun _ _ _ => False) e s' → False) :
    PySem.W.WalkO q loose XP YP l.row.toRowW d [] (fun f vs => PySem.call f vs) := by
  refine Att.attach_callB hn hdf fun w s₀ s₁ mg mb fa o pm cd doc a vs ns G Y ho hd hcd hmg hobj hints hlen hbits hg => ?_
  obtain ⟨K, fd, KX, hb, hF⟩ := F w mg fa _ Y G.T.g hmg
  exact law_callD KX G.T.g G.T.b G.T.builtins G.T.nolimit hg hobj hints (Nat.le_trans hlen hn2) hr hF hb (hm ns hlen hbits) fun H e s' => hCX H s₁ e s'
end DL
/-! D layer, part 10: sum of truths. -/
namespace PySem
section
variable {prog : Program} {w : World} {A : Around} {R : Result → Shared → Prop} {I : Addr} {fp wr : List Addr} {n : Nat} {P : Nat → Value → Prop} {St : Nat → Heap → Prop}
theorem preSum_bnd {val : Nat → Bool} : ∀ i, 0 ≤ preSum (fun j => if val j then 1 else 0) i ∧ preSum (fun j => if val j then 1 else 0) i ≤ i
  | 0 => ⟨Int.le_refl _, Int.le_refl _⟩
  | i + 1 => by
    obtain ⟨h1, h2⟩ := preSum_bnd (val := val) i
    unfold preSum
    cases val i <;> constructor <;> simp <;> omega
theorem sumB_loop (W : Walks prog w A.in1 I fp wr n P St) (val : Nat → Bool) (hval : ∀ i v, P i v → v = Value.bool (val i)) (S : Addr) (hSf : S ∉ fp) (hn : n ≤ 16777216) :
    ∀ (k i : Nat) (s : Shared) (tA : Tok) (c : Nat), n - i = k → i ≤ n → St i s.heap → s.heap.get? S = some { cls := .type "list", dict := none, data := .seq #[.int (preSum (fun j => if val j then 1 else 0) i) tA] c, slots := #[] } →
    (∀ h' tk t', (∀ b o, b ∉ wr → b ≠ S → s.heap.get? b = some o → h'.get? b = some o) → R (.ok (.ret (.int (preSum (fun j => if val j then 1 else 0) n) t'))) { s with heap := h', toks := tk }) →
    codeAny (model prog w) A (.builtin "sum.loop" ⟨[.ref I, .ref S, rawInt 0, rawInt 0], []⟩) R s := by
  have hSw : S ∉ wr := fun h => hSf (W.sub _ h)
  intro k
  induction k with
  | zero =>
    intro i s tA c hk hi hst hS hR
    obtain rfl : i = n := by omega
    refine codeAny_builtin F.entry_sum_loop ?_
    rw [Around.under_plainId F.plain_sum_loop _]
    show wpAny _ A.in1 (seqItems? (.ref S) >>= _) _ _ s
    refine wpAny_bind (wpAny_seqItems hS rfl ?_)
    show wpAny _ A.in1 (tryCatch (pyNext (.ref I)) _ >>= _) _ _ s
    exact wpAny_bind (wpAny_tryCatch (W.done s _ _ hst fun h' tk hk' => wpAny_pure (hR h' tk tA fun b o hbw _ e => hk' b o hbw e)))
  | succ k ih =>
    intro i s tA c hk hi hst hS hR
    have hlt : i < n := by omega
    refine codeAny_builtin F.entry_sum_loop ?_
    rw [Around.under_plainId F.plain_sum_loop _]
    show wpAny _ A.in1 (seqItems? (.ref S) >>= _) _ _ s
    refine wpAny_bind (wpAny_seqItems hS rfl ?_)
    show wpAny _ A.in1 (tryCatch (pyNext (.ref I)) _ >>= _) _ _ s
    refine wpAny_bind (wpAny_tryCatch (W.item i s _ _ hlt hst fun v h' tk hP hst' hk' => ?_))
    obtain rfl := hval i v hP
    have hS' := hk' S _ hSw hS
    obtain ⟨b1, b2⟩ := preSum_bnd (val := val) i
    have b3 : (if val i then (1 : Int) else 0) = 0 ∨ (if val i then (1 : Int) else 0) = 1 := by cases val i <;> simp
    show wpAny _ A.in1 (if (_ : Bool) = true then (mkInt (preSum (fun j => if val j then 1 else 0) i + (if val i then 1 else 0)) >>= _) else _) _ _ _
    generalize hbv : (if val i = true then (1 : Int) else 0) = z at b3 ⊢
    split
    · subst hbv
      refine wpAny_bind (wpAny_mkInt ?_)
      show wpAny _ A.in1 (updateSeq S (fun _ => #[.int (preSum (fun j => if val j then 1 else 0) i + (if val i then 1 else 0)) tk]) >>= _) _ _ _
      refine wpAny_bind ?_
      refine wpAny_updateSeq hS' rfl (wpAny_pure ⟨plainId_quiet F.plain_sum_loop _, ih (i + 1) _ tk _ (by omega) hlt (W.frame _ _ _ hst' fun b hb o e => ?_) (Heap.get?_update_self _ hS' rfl) fun h'' tk'' t'' hk'' => ?_⟩)
      · exact (Heap.get?_update_other _ _ (fun h : S = b => hSf (by rw [h]; exact hb))).trans e
      · exact hR h'' tk'' t'' fun b o hbw hbS e => hk'' b o hbw hbS ((Heap.get?_update_other _ _ (Ne.symm hbS)).trans (hk' b o hbw e))
    · rename_i hno
      refine absurd ?_ hno
      have h1 : ((decide (-(2 ^ 63) ≤ z) && decide (z < 2 ^ 63)) && (decide (-(2 ^ 63) ≤ preSum (fun j => if val j then 1 else 0) i + z) && decide (preSum (fun j => if val j then 1 else 0) i + z < 2 ^ 63))) = true := by
        simp only [Bool.and_eq_true, decide_eq_true_eq]
        refine ⟨⟨?_, ?_⟩, ?_, ?_⟩ <;> omega
      exact h1
theorem call_sumB {l : Addr} {items : Array Value} {vals : List Bool} {E : Value → Shared → Prop} {s : Shared} {Q : Value → Shared → Prop} (hh : A.handled = none) (hl : s.heap.IsList l items) (hi : ∀ (i : Nat) (v : Value), items[i]? = some v → v = Value.bool ((vals[i]?).getD false)) (hn : items.size ≤ 16777216)
    (h : ∀ h' tk t', (∀ b o, s.heap.get? b = some o → h'.get? b = some o) → Q (.int (preSum (fun j => if (vals[j]?).getD false then 1 else 0) items.size) t') { s with heap := h', toks := tk }) :
    wpAny (model prog w) A (call (.builtin "sum") [.ref l]) Q E s := by
  refine call_function_tree F.kind_sum F.plain_sum F.entry_sum (F.args_sum1 _) ?_
  unfold Builtin.«sum»
  simp only [List.length_cons, List.length_nil]
  rw [if_neg (by decide)]
  refine wpAny_bind (wpAny_of_eq (show Builtin.Builtins.bindParams "sum" ["start"] 0 { } = pure [none] from rfl) ?_)
  have hlt : l < s.heap.objs.size := by obtain ⟨_, e1, _⟩ := hl; exact Heap.lt_size e1
  refine wpAny_bind (wpAny_pyIter_list hl ?_)
  refine wpAny_bind (wpAny_mkInt ?_)
  refine wpAny_bind (wpAny_pure ?_)
  simp only [List.forIn_cons, List.forIn_nil]
  refine wpAny_bind (wpAny_bind (wpAny_bind (wpAny_isInstance (T := "int") (b := false) (typeIs_int _ _ _) sub_int_str ?_)))
  simp only [Bool.false_eq_true, if_false]
  refine wpAny_pure (wpAny_bind (wpAny_bind (wpAny_isInstance (T := "int") (b := false) (typeIs_int _ _ _) sub_int_bytes ?_)))
  simp only [Bool.false_eq_true, if_false]
  refine wpAny_pure (wpAny_bind (wpAny_bind (wpAny_isInstance (T := "int") (b := false) (typeIs_int _ _ _) sub_int_bytearray ?_)))
  simp only [Bool.false_eq_true, if_false]
  refine wpAny_pure (wpAny_pure ?_)
  refine wpAny_bind (wpAny_newObj_type ?_)
  have hl2 : (s.heap.push { cls := .type "list_iterator", data := .fields #[.ref l, .int 0 0] }).IsList l items := hl.at fun o e => Heap.get?_push_of_some _ e
  refine wpAny_pure ⟨plainId_quiet F.plain_sum_loop _, sumB_loop (Walks.list (A := A.in1) hh s.heap.objs.size l (Nat.ne_of_lt hlt) items) (fun j => (vals[j]?).getD false) hi _ ?_ hn items.size 0 _ s.toks 0 rfl (Nat.zero_le _)
    ⟨⟨_, Heap.get?_push_of_some _ (Heap.get?_push_size _ rfl), rfl, rfl⟩, hl2.at fun o e => Heap.get?_push_of_some _ e⟩ (Heap.get?_push_size _ rfl) fun h' tk t' hk => ?_⟩
  · show (s.heap.push _).objs.size ∉ _
    rw [Heap.size_push]
    intro hm
    have e' : s.heap.objs.size + 1 = s.heap.objs.size ∨ s.heap.objs.size + 1 = l := by simpa using hm
    rcases e' with z | z
    · exact absurd z (Nat.succ_ne_self _)
    · rw [← z] at hlt
      exact absurd hlt (Nat.not_lt_of_le (Nat.le_succ _))
  · refine h h' tk t' fun b o e => hk b o (fun hm => ?_) (fun z => ?_) (Heap.get?_push_of_some _ (Heap.get?_push_of_some _ e))
    · have e2 : b = s.heap.objs.size := by simpa using hm
      rw [e2] at e
      exact absurd (Heap.lt_size e) (Nat.lt_irrefl _)
    · have e2 : b = (s.heap.push _).objs.size := z
      rw [Heap.size_push] at e2
      rw [e2] at e
      exact absurd (Heap.lt_size e) (Nat.not_lt_of_le (Nat.le_succ _))
end
end PySem
namespace DL
open PySem PySem.Spec PyProof.Rows L2
def boolsV (bs : List Bool) : List DV := bs.map DV.bl
def countB : List Bool → Int
  | [] => 0
  | b :: r => (if b then 1 else 0) + countB r
/-- sum of a list of truths -/
def gSumB : GN
  | [.lst ds], S, Q => ∃ bs, ds = boolsV bs ∧ Q (.int (countB bs)) S
  | _, _, _ => False
theorem rvs_bools {K : PySem.W.Frag} {Γ : AG} : ∀ {bs : List Bool} {vs : List V}, RVs K Γ (boolsV bs) vs → vs = bs.map V.bl
  | [], vs, r => (show vs = [] from r)
  | b :: bs, vs, r => by
    obtain ⟨v, us, rfl, h1, h2⟩ := r
    rw [show v = .bl b from h1, rvs_bools h2]
    rfl
theorem vals_bools : ∀ {bs : List Bool} {us : List Value}, Vals (bs.map V.bl) us → us = bs.map Value.bool
  | [], us, h => by cases h; rfl
  | b :: bs, us, h => by
    obtain ⟨u, ws, rfl, h1, h2⟩ := vals_cons h
    rw [show u = Value.bool b from h1, vals_bools h2]
    rfl
theorem preSum_countB : ∀ (bs : List Bool), preSum (fun j => if (bs[j]?).getD false then 1 else 0) bs.length = countB bs := by
  have shift : ∀ (f : Nat → Int) (n : Nat), preSum f (n + 1) = f 0 + preSum (fun j => f (j + 1)) n := by
    intro f n
    induction n with
    | zero => simp [preSum]
    | succ n ih =>
      rw [preSum, ih, preSum]
      omega
  intro bs
  induction bs with
  | nil => rfl
  | cons b bs ih =>
    rw [List.length_cons, shift, countB]
    have e : (fun j => if ((b :: bs)[j + 1]?).getD false then (1 : Int) else 0) = fun j => if (bs[j]?).getD false then 1 else 0 := by
      funext j
      simp
    have ih' : preSum (fun j => if (bs[j]?).getD false = true then (1 : Int) else 0) bs.length = countB bs := ih
    rw [e, ih']
    simp
theorem cd_sumB {X : Cx} (hc : X.calm = true) : CallD X (.builtin "sum") gSumB := by
  intro pins s σ H xs us Q I rx h
  obtain ⟨Γ, S, ds, Qd, R, r1, hg, kq⟩ := h
  obtain ⟨xs, rfl, bs, rfl, q⟩ : ∃ xs, ds = [.lst xs] ∧ ∃ bs, xs = boolsV bs ∧ Qd (.int (countB bs)) S := by
    clear r1
    unfold gSumB at hg
    split at hg
    · exact ⟨_, rfl, hg⟩
    · exact hg.elim
  obtain ⟨v, rfl, r⟩ := r1.one
  obtain ⟨p, vs, rfl, h1, h2⟩ := R.lst r
  have e := rvs_bools h2
  subst e
  obtain ⟨its, rv, hl, hz⟩ := I.list (SqL.of h1)
  have e2 := vals_bools rv
  subst e2
  obtain ⟨u, ws, rfl, ru, rn⟩ := vals_cons rx
  cases (show u = Value.ref p from ru)
  cases vals_nil rn
  have hz' : bs.length ≤ 16777216 := by
    have := hz
    rw [List.length_map, sizeLine_eq] at this
    exact this
  refine call_sumB (vals := bs) (I.ok.hd hc) hl.isList (fun i v hv => ?_) (by simpa using hz') fun h' tk t' hk => ⟨.int (countB bs), H, I.kept hk, ⟨t', ?_⟩, kq.here (d := .int _) R rfl q⟩
  · have hv2 : (bs.map Value.bool)[i]? = some v := by simpa using hv
    rw [List.getElem?_map] at hv2
    cases eb : bs[i]? with
    | none => rw [eb] at hv2; cases hv2
    | some b =>
      rw [eb] at hv2
      cases hv2
      rfl
  · have e3 : (bs.map Value.bool).toArray.size = bs.length := by simp
    rw [e3, preSum_countB]
end DL
/-! D layer, part 11: walks over what is a list or a tuple. -/
namespace DL
open PySem PySem.Spec PyProof.Rows L2
def iSeqA (K : PySem.W.Frag) (tl : TE) : TI := fun σ H R => tl σ H fun x H1 => ∃ a xs, x = .ref a ∧ ((SqL K H1 a xs ∧ R (Itl K a) H1) ∨ (SqT K H1 a xs ∧ R (Itt K a) H1))
def iS (a : ME) : MI := fun δ S Q E => a δ S (fun d S1 => match d with
  | .tup ds => Q ds S1
  | .lst ds => Q ds S1
  | .frz ds => Q ds S1
  | _ => False) E
def gUnL (ts : List Tg) : MG := fun d δ S Q => (¬ ∃ cs, d = .tup cs) ∧ gUn ts d δ S Q
section
variable {X : Cx} {W : WX} {e tg : Expr} {me : ME}
theorem pi_seqA {tl : TE} (he : PE X e tl) : PI X tg e (iSeqA X.K tl) := by
  refine ⟨fun pins s σ H R I h => ?_⟩
  refine thn (he.run pins s σ H _ I h) fun v s1 ⟨x, H1, I1, r1, a, xs, ea, q⟩ => ?_
  subst ea
  cases r1
  have fresh : ∀ b, b ∈ [s1.heap.objs.size] → _ := fun b hb => by
    have eb : b = s1.heap.objs.size := by simpa using hb
    subst eb
    exact I1.fpOk (Nat.le_refl _) (I1.hok.fresh (Nat.le_refl _))
  rcases q with ⟨hq, q⟩ | ⟨hq, q⟩
  · obtain ⟨its, rv, p, hz⟩ := I1.list hq
    exact wpAny_pyIter_list p.isList ⟨s1.heap.objs.size, [s1.heap.objs.size], _, _, H1, rfl, I1.kept (t' := s1.toks) fun b o e => Heap.get?_push_of_some _ e, turn_list a _, ⟨_, Heap.get?_push_size _ rfl, rfl, rfl⟩, fresh, q⟩
  · obtain ⟨its, rv, p, hz⟩ := I1.tuple hq
    exact wpAny_pyIter_tuple (show s1.heap.IsTuple a its.toArray from p) ⟨s1.heap.objs.size, [s1.heap.objs.size], _, _, H1, rfl, I1.kept (t' := s1.toks) fun b o e => Heap.get?_push_of_some _ e, turn_tuple a _, ⟨_, Heap.get?_push_size _ rfl, rfl, rfl⟩, fresh, q⟩
theorem di_seq (he : DE X W e me) : DI X W tg e (iS me) := PI.imp (pi_seqA he) fun σ H R ⟨Γ, S, δ, Qd, Ed, c, m, kq, ke⟩ => ⟨Γ, S, δ, _, Ed, c, m, fun Γ1 S1 H1 d1 v1 e1 R1 r1 q1 => by
  cases d1 with
  | tup ds =>
    obtain ⟨p, vs, rfl, h2, h3⟩ := r1
    exact ⟨p, vs, rfl, .inr ⟨sqT_sub R1.sub h2, kq Γ1 S1 H1 ds _ e1 R1 (itd_tup h2 h3) q1⟩⟩
  | lst ds =>
    obtain ⟨p, vs, rfl, h2, h3⟩ := r1
    exact ⟨p, vs, rfl, .inl ⟨SqL.of (R1.sub _ _ h2), kq Γ1 S1 H1 ds _ e1 R1 (itd_lst (SqL.of h2) h3) q1⟩⟩
  | frz ds =>
    obtain ⟨p, vs, rfl, h2, h3⟩ := r1
    exact ⟨p, vs, rfl, .inl ⟨sqL_sub R1.sub h2, kq Γ1 S1 H1 ds _ e1 R1 (itd_lst h2 h3) q1⟩⟩
  | _ => exact False.elim q1, ke⟩
theorem dg_unL {es : List Expr} {ts : List Tg} {pos : Pos} {k : Nat} (hc : X.calm = true) (h : DTgs X es ts) (hn : (assignEach es X.env).length = ts.length := by rfl) (hst : (assignEach es X.env).findIdx? (·.1) = none := by rfl) : DG X (.Tuple es k pos) (gUnL ts) :=
  dg_un hc h hn hst
end
end DL
/-! D layer, part 12: tuple * int, sorted. -/
namespace DL
open PySem PySem.Spec PyProof.Rows L2
theorem tuple_mul1 (l : Addr) (items : Array Value) (n : Nat) (dd : Option Addr) (sl : Array (Option Value)) (x : Int) (u : Tok) (c0 : (decide (x < -(2 ^ 63)) || decide (x ≥ 2 ^ 63)) = false) (c1 : (items.isEmpty || x == 1) = true) :
    Meets (Builtin.«tuple.__mul__» ⟨[.ref l, .int x u], []⟩) (fun _ R s => s.heap.get? l = some { cls := .type "tuple", dict := dd, data := .seq items n, slots := sl } ∧ R (.ok (.ret (Value.ref l))) s) :=
  .of_wp fun prog w A R s h => by
    obtain ⟨hp, g, d, tk, os⟩ := s
    obtain ⟨hl, h⟩ := h
    have f1 := AutoSeq1.idx_int
    wp_walk using AutoSeq1.wpAny_loadPart' hl
    refine wpAny_ite_false (decide_eq_false (by rw [c0]; exact Bool.false_ne_true)) ?_
    wp_walk using AutoSeq1.wpAny_loadPart' hl
    exact ⟨_, rfl, h⟩
theorem tuple_mul0 (l : Addr) (items : Array Value) (n : Nat) (dd : Option Addr) (sl : Array (Option Value)) (x : Int) (u : Tok) (c0 : (decide (x < -(2 ^ 63)) || decide (x ≥ 2 ^ 63)) = false) (c1 : (items.isEmpty || x == 1) = false) (c2 : (decide (x ≤ 0) || items.isEmpty) = true) :
    Meets (Builtin.«tuple.__mul__» ⟨[.ref l, .int x u], []⟩) (fun _ R s => s.heap.get? l = some { cls := .type "tuple", dict := dd, data := .seq items n, slots := sl } ∧ R (.ok (.ret (Value.ref s.heap.objs.size))) { s with heap := s.heap.push { cls := Value.type "tuple", data := Data.seq #[] }, toks := s.toks }) :=
  .of_wp fun prog w A R s h => by
    obtain ⟨hp, g, d, tk, os⟩ := s
    obtain ⟨hl, h⟩ := h
    have f1 := AutoSeq1.idx_int
    wp_walk using AutoSeq1.wpAny_loadPart' hl
    refine wpAny_ite_false (decide_eq_false (by rw [c0]; exact Bool.false_ne_true)) ?_
    wp_walk using AutoSeq1.wpAny_loadPart' hl
    exact ⟨_, rfl, h⟩
/-- a tuple times a number -/
def fMulT : G2
  | .tup xs, .int k, S, Q => xs ≠ [] ∧ 0 ≤ k ∧ k ≤ 1000 ∧ xs.length ≤ 1000 ∧ Q (.tup (List.replicate k.toNat xs).flatten) S
  | _, _, _, _ => False
section
variable {X : Cx}
theorem opd_mulT : OpD X (binaryOp .Mult) fMulT := by
  intro pins s σ H x y v u Q I rx ry h
  obtain ⟨Γ, S, dx, dy, Qd, R, r1, r2, hg, kq⟩ := h
  cases dx with
  | tup xs =>
    cases dy with
    | int k =>
      obtain ⟨hne, k0, k1, hz, hq⟩ := hg
      obtain ⟨l, vs, rfl, h1, h2⟩ := R.tup r1
      cases r2.int
      have lv := h2.length
      have key : ∀ n : Nat, RVs X.K Γ (List.replicate n xs).flatten (List.replicate n vs).flatten := by
        intro n
        induction n with
        | zero => exact rfl
        | succ n ih =>
          rw [List.replicate_succ, List.replicate_succ, List.flatten_cons, List.flatten_cons]
          exact h2.append ih
      by_cases hk : 2 ≤ k
      · exact op_repT pins s σ H _ _ v u Q I rx ry ⟨l, k, vs, rfl, rfl, h1, fun e => hne (List.length_eq_zero_iff.mp (by rw [lv, e]; rfl)), hk, k1, by omega, fun p hp => kq.newT R hp (key _) hq⟩
      · cases rx
        obtain ⟨t, rfl⟩ := ry
        obtain ⟨its, r, ⟨⟨cls, dd, data, sl⟩, ho, hc, n, hd⟩, hs⟩ := I.tuple h1
        simp only at hc hd
        subst hc hd
        have hle : its.length = xs.length := by rw [lv]; exact r.length.symm
        have hi : its.toArray.isEmpty = false := by
          cases its with
          | nil => exact absurd (List.length_eq_zero_iff.mp hle.symm) hne
          | cons a b => rfl
        have c0 : (decide (k < -(2 ^ 63)) || decide (k ≥ 2 ^ 63)) = false := by
          rw [decide_eq_false (by omega), decide_eq_false (by omega)] <;> rfl
        have road : ∀ {Qv : Value → Shared → Prop}, wpAny (model X.prog X.w) X.A (call (.builtin "tuple.__mul__") [.ref l, .int k t]) Qv X.xe s → wpAny (model X.prog X.w) X.A (binaryOp .Mult (.ref l) (.int k t)) Qv X.xe s := fun h =>
          wpAny_binaryOp_repeat_ref (T := "tuple") (U := "int") (by decide) ⟨_, ho, rfl⟩ (fun s' => typeIs_int s' k t) noFill_tuple_mul F.fills_int_mul F.slot_int_rmul repeat_tuple F.slot_int_index.lookup
            (call_meets F.slot_int_rmul (typeIs_int s k t) F.entry_int_rmul (F.args_int_rmul_2 _ _) (int_rmul_tuple k t l its.toArray n dd sl) ⟨ho, rfl, ⟨_, ho, rfl⟩, h⟩)
        by_cases hk1 : k = 1
        · subst hk1
          refine road (call_meets F.slot_tuple_mul ⟨_, ho, rfl⟩ F.entry_tuple_mul (F.args_tuple_mul_2 _ _) (tuple_mul1 l its.toArray n dd sl 1 t c0 (by simp)) ⟨ho, ?_⟩)
          have e1 : (List.replicate (1 : Int).toNat xs).flatten = xs := by simp
          rw [e1] at hq
          exact ⟨.ref l, H, I, rfl, kq.here (d := .tup xs) R r1 hq⟩
        · have ek : k = 0 := by omega
          subst ek
          refine road (call_meets F.slot_tuple_mul ⟨_, ho, rfl⟩ F.entry_tuple_mul (F.args_tuple_mul_2 _ _) (tuple_mul0 l its.toArray n dd sl 0 t c0 (by rw [hi]; rfl) (by simp)) ⟨ho, ?_⟩)
          have e1 : (List.replicate (0 : Int).toNat xs).flatten = [] := by simp
          rw [e1] at hq
          exact ⟨.ref s.heap.objs.size, _, I.laid (t' := s.toks) (o := .tup []) (fun b ob q => Heap.get?_push_of_some _ q) (Nat.le_refl _) ⟨Nat.zero_le _, [], .nil, IsTup.new _ _⟩, rfl, kq.newT R (I.hok.fresh (Nat.le_refl _)) (ds := []) (vs := []) rfl hq⟩
    | _ => exact False.elim hg
  | _ => cases dy <;> exact False.elim hg
/-! ### sorted -/
open PySem.W in
def gSorted : GN
  | [.lst ds], S, Q => ∃ ps, toPs ds = some ps ∧ AllAlike ps ∧ Sortable ps ∧ ds.length ≤ 16777216 ∧ (∀ p ∈ ps, p.depth ≤ 60) ∧ Q (.lst (((ds.zip ps).mergeSort (dataLe false Prod.snd)).map Prod.fst)) S
  | _, _, _ => False
theorem toPs_inv {d : DV} {ds : List DV} {ps : List PyData} (h : toPs (d :: ds) = some ps) : ∃ p qs, toP d = some p ∧ toPs ds = some qs ∧ ps = p :: qs := by
  simp only [toPs] at h
  split at h
  · rename_i p qs h1 h2
    cases h
    exact ⟨p, qs, h1, h2, rfl⟩
  · cases h
theorem toPs_len : ∀ {ds : List DV} {ps : List PyData}, toPs ds = some ps → ps.length = ds.length
  | [], ps, h => by cases h; rfl
  | d :: ds, ps, h => by
    obtain ⟨p, qs, _, h2, rfl⟩ := toPs_inv h
    rw [List.length_cons, List.length_cons, toPs_len h2]
theorem each_of {pins : List (Addr × Obj)} {σ : L2.St} {H : Hp} {s : Shared} {Γ : AG} {S : Store} (I : Inv X pins σ H s) (R : Rs X.K Γ S H) : ∀ (ds : List DV) (ps : List PyData) (vs : List V) (us : List Value), RVs X.K Γ ds vs → toPs ds = some ps → Vals vs us →
    PySem.W.EachIs (fun u (b : DV × PyData) => ∃ v, RV X.K Γ b.1 v ∧ RelV v u) us (ds.zip ps) ∧ PySem.W.EachIs (fun u (b : DV × PyData) => ∃ as, Reads s.heap u b.2 as) us (ds.zip ps)
  | [], ps, vs, us, r, e, q => by
    cases (show vs = [] from r)
    cases e
    cases q
    exact ⟨.nil, .nil⟩
  | d :: ds, ps, vs, us, r, e, q => by
    obtain ⟨v, ws, rfl, h2, h3⟩ := r
    obtain ⟨p, qs, h4, h5, rfl⟩ := toPs_inv e
    cases q with
    | cons q1 q2 =>
      obtain ⟨g1, g2⟩ := each_of I R ds qs ws _ h3 h5 q2
      exact ⟨.cons ⟨v, h2, q1⟩ g1, .cons (reads_of I R d p v _ h2 h4 q1) g2⟩
theorem each_back {Γ : AG} : ∀ {us : List Value} {bs : List (DV × PyData)}, PySem.W.EachIs (fun u (b : DV × PyData) => ∃ v, RV X.K Γ b.1 v ∧ RelV v u) us bs → ∃ vs, RVs X.K Γ (bs.map Prod.fst) vs ∧ Vals vs us
  | _, _, .nil => ⟨[], rfl, .nil⟩
  | _, _, .cons ⟨v, h1, h2⟩ t => by
    obtain ⟨vs, g1, g2⟩ := each_back t
    exact ⟨v :: vs, ⟨v, vs, rfl, h1, g1⟩, .cons h2 g2⟩
theorem cd_sorted (hu : X.A.units + 64 < cLine) : CallD X (.builtin "sorted") gSorted := by
  intro pins s σ H xs us Q I rx h
  obtain ⟨Γ, S, ds, Qd, R, r1, hg, kq⟩ := h
  obtain ⟨xs', rfl, ps, hp, hal, hso, hl, hd, q⟩ : ∃ xs, ds = [.lst xs] ∧ ∃ ps, toPs xs = some ps ∧ PySem.W.AllAlike ps ∧ PySem.W.Sortable ps ∧ xs.length ≤ 16777216 ∧ (∀ p ∈ ps, p.depth ≤ 60) ∧ Qd (.lst (((xs.zip ps).mergeSort (PySem.W.dataLe false Prod.snd)).map Prod.fst)) S := by
    clear r1
    unfold gSorted at hg
    split at hg
    · exact ⟨_, rfl, hg⟩
    · exact hg.elim
  obtain ⟨v, rfl, r⟩ := r1.one
  obtain ⟨p, vs, rfl, h1, h2⟩ := R.lst r
  obtain ⟨its, rv, hli, hz⟩ := I.list (SqL.of h1)
  obtain ⟨u, ws, rfl, ru, rn⟩ := vals_cons rx
  cases (show u = Value.ref p from ru)
  cases vals_nil rn
  obtain ⟨e1, e2⟩ := each_of I R xs' ps vs its h2 hp rv
  have hpl := toPs_len hp
  have em : (xs'.zip ps).map Prod.snd = ps := List.map_snd_zip (by omega)
  have lz : (xs'.zip ps).length = xs'.length := by rw [List.length_zip]; omega
  refine PySem.W.sorted_data (enc := Prod.snd) hli.isList e1 e2 (by rw [em]; exact hal) (by rw [em]; exact hso) (by rw [lz]; exact line_le hl) (fun b hb => ?_) fun out ho er => ?_
  · have := hd b.2 (by rw [← em]; exact List.mem_map.mpr ⟨b, hb, rfl⟩)
    omega
  · obtain ⟨vs', g1, g2⟩ := each_back er
    obtain ⟨ep, he'⟩ := PyProof.Rows.sortedAll_at s.heap its out.toArray
    have hlen : vs'.length ≤ sizeLine := by
      rw [g2.length, ho, lz]
      exact line_le hl
    exact ⟨.ref _, upd H (s.heap.objs.size + 1) (.lst vs'), I.laid (t' := s.toks) (fun _ _ => PyProof.Rows.sortedAll_old) (Nat.le_succ _) ⟨hlen, out, ep, g2, he'⟩, rfl, kq.newL R (I.hok.fresh (Nat.le_succ _)) g1 q⟩
end
end DL
/-! D layer, part 13: a comprehension stored under a name; the module's numbers; two comparisons in a row. -/
namespace DL
open PySem PySem.Spec PyProof.Rows L2
theorem Rs.giveL {K : PySem.W.Frag} {Γ1 : AG} {A2 : List Addr} {G2 : Hp} {S2 : Store} {H2 : Hp} {D : Addr} {us : List V} {ys : List DV} (R2 : Rs K ⟨A2, G2, upd Γ1.F D (.lst us), Γ1.T⟩ S2 H2) (hF : Γ1.F D = none) (e2 : Ext Γ1 ⟨A2, G2, Γ1.F, Γ1.T⟩) (r2 : RVs K ⟨A2, G2, Γ1.F, Γ1.T⟩ ys us) :
    Rs K ⟨A2, upd G2 D (.lst us), Γ1.F, Γ1.T⟩ S2 H2 ∧ Ext Γ1 ⟨A2, upd G2 D (.lst us), Γ1.F, Γ1.T⟩ ∧ RV K ⟨A2, upd G2 D (.lst us), Γ1.F, Γ1.T⟩ (.lst ys) (.ref D) := by
  have hG : G2 D = none := R2.fdis D _ upd_same
  have E2 : Ext ⟨A2, G2, Γ1.F, Γ1.T⟩ ⟨A2, upd G2 D (.lst us), Γ1.F, Γ1.T⟩ := ⟨⟨[], by simp⟩, fun a u ea => by
    show upd G2 D (.lst us) a = some u
    have hne : a ≠ D := fun z => by
      have ea' : G2 a = some u := ea
      rw [z, hG] at ea'
      cases ea'
    rw [upd_ne hne]
    exact ea, rfl, rfl⟩
  exact ⟨R2.give rfl hF, e2.trans E2, D, us, rfl, upd_same, RVs.mono (Γ := ⟨A2, G2, Γ1.F, Γ1.T⟩) (Γ' := ⟨A2, upd G2 D (.lst us), Γ1.F, Γ1.T⟩) E2 _ _ r2⟩
section
variable {X : Cx} {W : WX} {elt tg iter : Expr} {ifs : List Expr} {scope : Scope} {own : List (Str × Nat)} {pos spos py : Pos} {mi : MI} {t : Tg} {mt : MT} {me : ME} {i : Nat} {y : Str}
variable (hc : X.calm = true) (hN : X.N.Nodup) (hi : DI X W tg iter mi) (ok : BlkOk X.N X.env.scope scope own) (hn : ∀ i ∈ namesT t, i ∈ own.map (·.2))
  (hg : ∀ (s : Shared) (H : Hp) (C : Addr) (cl : List (Str × Addr)) (fp : List Addr), DTg (X.blk s H scope (compEnvC scope cl C X.env) fp) tg t)
  (ht : ∀ (s : Shared) (H : Hp) (C : Addr) (cl : List (Str × Addr)) (fp : List Addr), DTs (X.blk s H scope (compEnvC scope cl C X.env) fp) noW ifs mt)
  (he : ∀ (s : Shared) (H : Hp) (C : Addr) (cl : List (Str × Addr)) (fp : List Addr), DE (X.blk s H scope (compEnvC scope cl C X.env) fp) noW elt me)
include hc hN hi ok hn hg ht he
theorem d_setLc (hsw : swapsWith (.ListComp elt [⟨tg, iter, ifs, 0⟩] scope pos) (some (.Name y py)) spos.line X.env = pure true) (hy : X.N[i]? = some y := by rfl) (hyl : X.env.scope.names.lookup y = some .local := by rfl) (hs : ∀ x, foldedSetIterable iter X.env x = pure x := by intro _; rfl) :
    DS X W (.Assign [.Name y py] (.ListComp elt [⟨tg, iter, ifs, 0⟩] scope pos) spos) (mSet i (mLc mi t mt me (own.map (·.2)))) :=
  PS.imp (ps_setLc (wi := tID X.K W mi) (g := tgV X.K t) (tt := tG relB X.K noW mt) (te := tG (RV X.K) X.K noW me) hc hN hy hyl hsw hi ok hg ht he hs) fun D0 σ H ⟨Γ, S, δ, Dd, c, m, er⟩ => ⟨Γ, S, δ, _, _, c, m, fun Γ1 S1 H1 xs J e1 R1 it q1 =>
    lc_run (Q := fun v H' => gName i v σ H' D0.nx) (own.map (·.2)) hn (c.mk' R1 e1) it q1 fun A2 G2 S2 H2 D ys us e2 hD hF R2 r2 q2 => by
      obtain ⟨R3, e3, r3⟩ := R2.giveL hF e2 r2
      exact er.nx _ S2 H2 _ _ (e1.trans e3) ((c.mk' R3 (e1.trans e3)).set r3) q2, er.ke c⟩
end
section
variable {X : Cx} {W : WX} {a b c : Expr} {ma mb mc : ME} {pos : Pos} {x : Str} {i : Int}
/-- a number of the module's -/
theorem d_glo (hm : ∃ t, X.mg x = some (.int i t)) (hg : Gl X x) (hn : (x == ("__debug__" : Str)) = false := by decide) : DE X W (.Name x pos) (mC (.int i)) := by
  obtain ⟨t, hm⟩ := hm
  exact d_const (v := .int i) (pe_glob hg hm ⟨t, rfl⟩ hn) fun _ => rfl
theorem d_chain2 {op op' : CmpOp} {g g' : G2} (ho : OpD X (compareOp op) g) (ho' : OpD X (compareOp op') g') (ha : DE X W a ma) (hb : DE X W b mb) (hc : DE X W c mc) (hm : lastMarks [op, op'] [b, c] = false := by with_unfolding_all rfl) :
    DE X W (.Compare a [op, op'] [b, c] pos) (mChain g g' ma mb mc) := d_chain ho ho' ha hb hc fun h h' ka kb kc => pe_chain h h' ka kb kc hm
end
end DL
/-! D layer, part 14: isinstance, max. -/
namespace DL
open PySem PySem.Spec PyProof.Rows L2
/-- the type of a datum -/
def tyD (S : Store) : DV → Option String
  | .non => some "NoneType"
  | .bl _ => some "bool"
  | .int _ => some "int"
  | .str _ => some "str"
  | .tup _ => some "tuple"
  | .lst _ => some "list"
  | .frz _ => some "list"
  | .dct => some "dict"
  | .dcx => some "dict"
  | .ref i => match S[i]? with
    | some (some (.lst _)) => some "list"
    | some (some (.dct _)) => some "dict"
    | _ => none
  | _ => none
/-- isinstance(x, T), T built in -/
def gIsi : GN
  | [d, .ty n], S, Q => match tyD S d with
    | some t => (match kitB t n with
      | some b => Q (.bl b) S
      | none => False)
    | none => False
  | _, _, _ => False
section
variable {X : Cx} {W : WX} {pos : Pos} {x : Str} {n : String}
theorem pe_bty (hg : Gl X x) (hm : X.mg x = none) (hv : bootBuiltins x = some (.type n)) (hn : x ≠ "__name__" := by decide) (hd : (x == ("__debug__" : Str)) = false := by decide) : PE X (.Name x pos) (tC (.ty n)) :=
  ⟨fun _ _ _ H _ I h => ld_blt I hg hm hv ⟨.ty n, H, I, rfl, h⟩ hn hd⟩
theorem d_ty (hg : Gl X x) (hm : X.mg x = none) (hv : bootBuiltins x = some (.type n)) (hn : x ≠ "__name__" := by decide) (hd : (x == ("__debug__" : Str)) = false := by decide) : DE X W (.Name x pos) (mC (.ty n)) :=
  d_const (pe_bty hg hm hv hn hd) fun _ => rfl
theorem tyx_of {K : PySem.W.Frag} {Γ : AG} {S : Store} {H : Hp} {d : DV} {v : V} {t : String} (R : Rs K Γ S H) (r : RV K Γ d v) (e : tyD S d = some t) : TyX K H v (.type t) := by
  cases d with
  | non => cases (show v = .non from r); cases e; exact .base .non
  | bl b => cases (show v = .bl b from r); cases e; exact .base (.bl b)
  | int i => cases (show v = .int i from r); cases e; exact .base (.int i)
  | str z => cases (show v = .str z from r); cases e; exact .base (.str z)
  | tup ds =>
    cases e
    obtain ⟨p, vs, rfl, h, _⟩ := R.tup r
    rcases h with (h | ⟨o, h⟩) | ⟨o, its, n, h, hc, _⟩
    · exact .base (.tup h)
    · exact .fTuple h
    · exact .kTuple h hc
  | lst ds =>
    cases e
    obtain ⟨p, vs, rfl, h, _⟩ := R.lst r
    exact .base (.lst h)
  | frz ds =>
    cases e
    obtain ⟨p, vs, rfl, h, _⟩ := R.frz r
    rcases h with (h | ⟨o, h⟩) | ⟨o, its, n, h, hc, _⟩
    · exact .base (.lst h)
    · exact .base (.frz h)
    · exact .kList h hc
  | dct =>
    cases e
    obtain ⟨p, rfl, h⟩ := r
    exact .base (.dK (R.sub _ _ h))
  | dcx =>
    cases e
    obtain ⟨p, kvs, rfl, h⟩ := r
    exact .base (.dK (R.sub _ _ h))
  | ref i =>
    have e' : (match S[i]? with
      | some (some (.lst _)) => some "list"
      | some (some (.dct _)) => some "dict"
      | _ => none) = some t := e
    match es : S[i]? with
    | some (some (.lst ds)) =>
      rw [es] at e'
      cases e'
      obtain ⟨a, rfl, _, ho⟩ := R.ref r es
      obtain ⟨vs, h, _⟩ := ho
      exact .base (.lst h)
    | some (some (.dct ds)) =>
      rw [es] at e'
      cases e'
      obtain ⟨a, rfl, _, ho⟩ := R.ref r es
      obtain ⟨vs, h, _⟩ := ho
      exact .base (.dT h)
    | some (some (.ins _ _)) => rw [es] at e'; cases e'
    | some none => rw [es] at e'; cases e'
    | none => rw [es] at e'; cases e'
  | _ => cases e
theorem cd_isi : CallD X (.builtin "isinstance") gIsi := by
  intro pins s σ H xs us Q I rx h
  obtain ⟨Γ, S, ds, Qd, R, r1, hg, kq⟩ := h
  obtain ⟨d, n, rfl, t, ht, b, hb, q⟩ : ∃ d n, ds = [d, .ty n] ∧ ∃ t, tyD S d = some t ∧ ∃ b, kitB t n = some b ∧ Qd (.bl b) S := by
    clear r1
    unfold gIsi at hg
    split at hg
    · rename_i d n
      split at hg
      · rename_i t ht
        split at hg
        · rename_i b hb
          exact ⟨d, n, rfl, t, ht, b, hb, hg⟩
        · exact hg.elim
      · exact hg.elim
    · exact hg.elim
  obtain ⟨v, w, rfl, r, r'⟩ := r1.two
  cases (show w = .ty n from r')
  exact call_isi pins s σ H _ us Q I rx ⟨v, .ty n, .type t, .type n, b, rfl, .ty n, tyx_of R r ht, kit_ty hb, kq.here (d := .bl b) R rfl q⟩
/-- max(i, j) -/
def gMax2 : GN
  | [.int i, .int j], S, Q => Q (.int (if j > i then j else i)) S
  | _, _, _ => False
theorem cd_max2 (hc : X.calm = true) : CallD X (.builtin "max") gMax2 := by
  intro pins s σ H xs us Q I rx h
  obtain ⟨Γ, S, ds, Qd, R, r1, hg, kq⟩ := h
  obtain ⟨i, j, rfl, q⟩ : ∃ i j, ds = [.int i, .int j] ∧ Qd (.int (if j > i then j else i)) S := by
    clear r1
    unfold gMax2 at hg
    split at hg
    · exact ⟨_, _, rfl, hg⟩
    · exact hg.elim
  obtain ⟨v, w, rfl, r, r'⟩ := r1.two
  cases r.int
  cases r'.int
  exact call_max2 hc pins s σ H _ us Q I rx ⟨i, j, rfl, kq.here (d := .int _) R rfl q⟩
/-- max of a list of ints -/
def gMaxL : GN
  | [.lst ds], S, Q => ∃ is, ds = intsV is ∧ 0 < is.length ∧ ∀ m, m ∈ is → (∀ y, y ∈ is → y ≤ m) → Q (.int m) S
  | _, _, _ => False
theorem cd_maxL (hc : X.calm = true) : CallD X (.builtin "max") gMaxL := by
  intro pins s σ H xs us Q I rx h
  obtain ⟨Γ, S, ds, Qd, R, r1, hg, kq⟩ := h
  obtain ⟨xs', rfl, is, rfl, hl, q⟩ : ∃ xs, ds = [.lst xs] ∧ ∃ is, xs = intsV is ∧ 0 < is.length ∧ ∀ m, m ∈ is → (∀ y, y ∈ is → y ≤ m) → Qd (.int m) S := by
    clear r1
    unfold gMaxL at hg
    split at hg
    · exact ⟨_, rfl, hg⟩
    · exact hg.elim
  obtain ⟨v, rfl, r⟩ := r1.one
  obtain ⟨p, vs, rfl, h1, h2⟩ := R.lst r
  have e := h2.ints
  subst e
  exact cr_max hc pins s σ H _ us Q I rx ⟨p, is, rfl, SqL.of h1, hl, fun m hm hy => kq.here (d := .int m) R rfl (q m hm hy)⟩
end
end DL
/-! D layer, part 15: max of a tuple, x in a tuple. -/
namespace DL
open PySem PySem.Spec PyProof.Rows L2
theorem max_tup {prog : Program} {w : World} {A : Around} {E : Value → Shared → Prop} {s : Shared} {l : Addr} {its : List Value} {ns : List Int} {Q : Value → Shared → Prop} (hh : A.handled = none) (hl : s.heap.IsTuple l its.toArray) (hi : IntsAre its ns) (hne : 0 < ns.length)
    (h : ∀ h' tk M t', (∀ b o, s.heap.get? b = some o → h'.get? b = some o) → M ∈ ns → (∀ a, a ∈ ns → a ≤ M) → Q (.int M t') { s with heap := h', toks := tk }) : wpAny (model prog w) A (call (.builtin "max") [.ref l]) Q E s := by
  obtain ⟨xs, e⟩ := hi.allInts.items
  have hn : numsOf (intItems xs).toList = ns := by rw [← e]; exact hi.numsOf
  rw [nums_intItems] at hn
  subst hn
  rw [e] at hl
  have hsz : 0 < xs.size := by simpa using hne
  have hlt : l < s.heap.objs.size := by obtain ⟨_, e1, _⟩ := hl; exact Heap.lt_size e1
  have hl2 : (s.heap.push { cls := .type "tuple_iterator", data := .fields #[.ref l, .int 0 0] }).IsTuple l (intItems xs) := hl.at fun o e => Heap.get?_push_of_some _ e
  refine call_max_walk (wpAny_pyIter_tuple hl ⟨_, _, _, _, _, _, _, rfl, Walks.tuple (A := A.in1) hh s.heap.objs.size l (Nat.ne_of_lt hlt) (intItems xs), ⟨⟨_, Heap.get?_push_size _ rfl, rfl, rfl⟩, hl2⟩, fun b hb => ?_, by simpa [intItems] using hsz, CmpOf.ints_gt (numAt xs) (fun _ _ => intItems_at), fun v h' tk hP hk => ?_⟩)
  · show b < (s.heap.push _).objs.size
    rw [Heap.size_push]
    rcases List.mem_cons.mp hb with rfl | hb
    · exact Nat.lt_succ_self _
    · have e2 : b = l := by simpa using hb
      rw [e2]
      exact Nat.lt_succ_of_lt hlt
  · have hv : (intItems xs)[argBest (fun i j => decide (numAt xs i > numAt xs j)) (xs.size - 1)]? = some v := by simpa [intItems] using hP
    obtain ⟨t, rfl⟩ := intItems_at hv
    obtain ⟨h1, h2⟩ := argBest_gt (numAt xs) (xs.size - 1)
    refine h h' tk _ t (fun b o e1 => ?_) ?_ fun a ha => ?_
    · refine hk b o (fun hm => ?_) (Heap.get?_push_of_some _ e1)
      have e2 : b = s.heap.objs.size := by simpa using hm
      rw [e2] at e1
      exact absurd (Heap.lt_size e1) (Nat.lt_irrefl _)
    · rw [numAt_eq]
      exact PySem.getD_mem (by rw [List.length_map, Array.length_toList]; omega)
    · obtain ⟨j, hj, rfl⟩ := mem_getD ha
      rw [List.length_map, Array.length_toList] at hj
      rw [← numAt_eq]
      exact h2 j (by omega)
/-- max of a tuple of ints -/
def gMaxT : GN
  | [.tup ds], S, Q => ∃ is, ds = intsV is ∧ 0 < is.length ∧ ∀ m, m ∈ is → (∀ y, y ∈ is → y ≤ m) → Q (.int m) S
  | _, _, _ => False
/-- x in a tuple, x not in it -/
def fInT (q : Bool → Bool) : G2
  | x, .tup ds, S, Q => ∃ p ps, toP x = some p ∧ toPs ds = some ps ∧ SeqAt.shaped p = true ∧ p.depth ≤ 60 ∧ SeqAt.shaped (.tuple ps) = true ∧ Q (.bl (q (ps.any fun z => PyData.eqv z p))) S
  | _, _, _, _ => False
section
variable {X : Cx}
theorem cd_maxT (hc : X.calm = true) : CallD X (.builtin "max") gMaxT := by
  intro pins s σ H xs us Q I rx h
  obtain ⟨Γ, S, ds, Qd, R, r1, hg, kq⟩ := h
  obtain ⟨xs', rfl, is, rfl, hl, q⟩ : ∃ xs, ds = [.tup xs] ∧ ∃ is, xs = intsV is ∧ 0 < is.length ∧ ∀ m, m ∈ is → (∀ y, y ∈ is → y ≤ m) → Qd (.int m) S := by
    clear r1
    unfold gMaxT at hg
    split at hg
    · exact ⟨_, rfl, hg⟩
    · exact hg.elim
  obtain ⟨v, rfl, r⟩ := r1.one
  obtain ⟨p, vs, rfl, h1, h2⟩ := R.tup r
  have e := h2.ints
  subst e
  obtain ⟨its, rv, ht, _⟩ := I.tuple h1
  obtain ⟨u, ws, rfl, ru, rn⟩ := vals_cons rx
  cases (show u = Value.ref p from ru)
  cases vals_nil rn
  exact max_tup (I.ok.hd hc) ht rv.ints hl fun h' tk M t' hk hm hy => ⟨.int _, H, I.kept hk, ⟨_, rfl⟩, kq.here (d := .int M) R rfl (q M hm hy)⟩
theorem opd_inT (hu : X.A.units + 64 < cLine) : OpD X (compareOp .In) (fInT fun b => b) := by
  intro pins s σ H x y v u Q I rx ry h
  obtain ⟨Γ, S, dx, dy, Qd, R, r1, r2, hg, kq⟩ := h
  cases dy with
  | tup ds =>
    obtain ⟨p, ps, h1, h2, h3, h5, h4, q⟩ := hg
    obtain ⟨as, k1⟩ := reads_of I R dx p x v r1 h1 rx
    obtain ⟨bs, k2⟩ := reads_of I R (.tup ds) (.tuple ps) y u r2 (by simp only [toP, h2]) ry
    exact SeqAt.in_tuple_reads k2 k1 (SeqAt.canLay_of_shaped h4) (SeqAt.canLay_of_shaped h3) (by
      have := Nat.min_le_right (PyData.depthAll ps) p.depth
      omega) ⟨.bl _, H, I, rfl, kq.here (d := .bl _) R rfl q⟩
  | _ => cases dx <;> exact False.elim hg
end
end DL
/-! D layer, part 16: two comparisons in a row as a test. -/
namespace DL
open PySem PySem.Spec PyProof.Rows L2
section
variable {X : Cx} {W : WX} {a b c : Expr} {ma mb mc : ME} {g g' : G2} {pos : Pos} {σ : L2.St} {H : Hp} {Q : VK}
theorem chain_imp : tG (RV X.K) X.K W (mChain g g' ma mb mc) σ H Q → tChain (tO2 X.K g) (tO2 X.K g') (tG (RV X.K) X.K W ma) (tG (RV X.K) X.K W mb) (tG (RV X.K) X.K W mc) σ H Q :=
  fun ⟨Γ, S, δ, Qd, Ed, c, m, kq, ke⟩ =>
    ⟨Γ, S, δ, _, Ed, c, m, fun Γ1 S1 H1 d1 v1 e1 R1 r1 q1 => ⟨Γ1, S1, δ, _, Ed, c.mk' R1 e1, q1, fun Γ2 S2 H2 d2 v2 e2 R2 r2 q2 =>
      ⟨Γ2, S2, d1, d2, _, R2, RV.mono e2 _ _ r1, r2, q2, fun Γ3 S3 H3 d3 v3 e3 R3 r3 q3 => by
        cases d3 with
        | bl k =>
          cases (show v3 = .bl k from r3)
          cases k with
          | true =>
            refine ⟨true, rfl, ?_⟩
            rw [if_pos rfl]
            exact ⟨Γ3, S3, δ, _, Ed, c.mk' R3 ((e1.trans e2).trans e3), q3, fun Γ4 S4 H4 d4 v4 e4 R4 r4 q4 => ⟨Γ4, S4, d2, d4, Qd, R4, RV.mono (e3.trans e4) _ _ r2, r4, q4, kq.mono (((e1.trans e2).trans e3).trans e4)⟩, ke.mono ((e1.trans e2).trans e3)⟩
          | false =>
            refine ⟨false, rfl, ?_⟩
            rw [if_neg Bool.false_ne_true]
            exact (kq.mono ((e1.trans e2).trans e3)).here (d := .bl false) R3 rfl q3
        | _ => exact False.elim q3⟩, ke.mono e1⟩, ke⟩

theorem d_testChain {op op' : CmpOp} (ho : OpD X (compareOp op) g) (ho' : OpD X (compareOp op') g') (ha : DE X W a ma) (hb : DE X W b mb) (hc : DE X W c mc) (hm : lastMarks [op, op'] [b, c] = false := by with_unfolding_all rfl) :
    DT X W (.Compare a [op, op'] [b, c] pos) (mT (mChain g g' ma mb mc)) :=
  PT.imp (pt_chain ho ho' ha hb hc hm) fun σ H Q ⟨Γ, S, δ, Qd, Ed, c, m, kq, ke⟩ =>
    chain_imp (Q := fun x H1 => ∃ k, x = .bl k ∧ Q k H1) ⟨Γ, S, δ, _, Ed, c, m, fun Γ1 S1 H1 d1 v1 e1 R1 r1 q1 => by
      cases d1 with
      | bl k => exact ⟨k, r1, kq Γ1 S1 H1 k k e1 R1 rfl q1⟩
      | _ => exact False.elim q1, ke⟩
end
end DL
/-! D layer, part 17: sorted of tuples the first of which is empty. -/
namespace DL
open PySem PySem.Spec PyProof.Rows L2 PySem.W PySem.SeqAt
section
variable {prog : Program} {w : World} {A : Around} {E : Value → Shared → Prop} {s : Shared}
theorem call_tuple_lt {Q : Value → Shared → Prop} {l b : Addr} {items items2 : Array Value} {e r : Nat → Bool} (hl : s.heap.IsTuple l items) (hb : s.heap.IsTuple b items2)
    (he : ∀ j (h1 : j < items.size) (h2 : j < items2.size), EqAt A.in1 s items[j] items2[j] (e j)) (hr : ∀ j (h1 : j < items.size) (h2 : j < items2.size), e j = false → RcLt A.in1 s items[j] items2[j] (r j))
    (h : Q (.bool (firstLt e r (decide (items.size < items2.size)) (List.range (min items.size items2.size)))) s) : wpAny (model prog w) A (call (.builtin "tuple.__lt__") [.ref l, .ref b]) Q E s := by
  obtain ⟨⟨c1, dd, t1, sl⟩, o1, k1, n, d1⟩ := id hl
  obtain ⟨⟨c2, dd2, t2, sl2⟩, o2, k2, n2, d2⟩ := id hb
  simp only at k1 d1 k2 d2
  subst k1 d1 k2 d2
  exact call_meets F.slot_tuple_lt ⟨_, o1, rfl⟩ F.entry_tuple_lt (F.args_tuple_lt_2 _ _) (tuple_ltAt l b items items2 n n2 dd dd2 sl sl2 e r) ⟨o1, o2, he, hr, h⟩
theorem oneLt_tups {xs ys : List PyData} {a b : Value} {as bs : List Addr} {Q : Bool → Shared → Prop} (ra : Reads s.heap a (.tuple xs) as) (rb : Reads s.heap b (.tuple ys) bs) (h : alike (.tuple xs) (.tuple ys) = true)
    (hu : A.units + min (PyData.tuple xs).depth (PyData.tuple ys).depth < cLine) (hq : Q (dataLt (.tuple xs) (.tuple ys)) s) : wpAny (model prog w) A (oneLt' true a b) Q E s := by
  have hal : alikeAll xs ys = true := by simpa [alike] using h
  cases ra with
  | @tuple l o vs n _ as₁ h1 h2 h3 h4 =>
    cases rb with
    | @tuple l' o' vs' n' _ bs₁ k1 k2 k3 k4 =>
      have n1 : vs.size = xs.length := by simpa using ReadsAll.length _ _ _ h4
      have n2 : vs'.size = ys.length := by simpa using ReadsAll.length _ _ _ k4
      rw [dataLt_tuple, ← firstLt_toks xs ys hal, ← n1, ← n2] at hq
      rw [oneLt'_eq]
      simp only [if_true]
      refine wpAny_bind (wpAny_cRoomFor (room_here hu) ?_)
      refine wpAny_bind (wpAny_callSpecialIfBound?_slot (T := "tuple") ⟨_, h1, h2⟩ F.slot_tuple_lt (call_tuple_lt (e := pairEq xs ys) (r := fun j => dataLt (xs.getD j .none) (ys.getD j .none)) ⟨_, h1, h2, _, h3⟩ ⟨_, k1, k2, _, k3⟩ (fun j j1 j2 => ?_) (fun j j1 j2 hj => ?_) ?_))
      · have q1 := eqAt_alikeAll xs ys A.in1 s vs.toList vs'.toList _ _ h4 k4 hal (room_in hu) j (by simpa using j1) (by simpa using j2)
        simpa using q1
      · have q1 := rcLt_alikeAll xs ys A.in1 s vs.toList vs'.toList _ _ h4 k4 hal (room_in hu) j (by simpa using j1) (by simpa using j2) hj
        simpa using q1
      · exact wpAny_truthy_bool hq
/-- mapM over what may differ item by item -/
theorem mapM_each {α β : Type} {M : Model} {f : α → Sem β} : ∀ {l : List α} {rs : List β} {Q : List β → Shared → Prop}, EachIs (fun v r => ∀ (Q' : β → Shared → Prop), Q' r s → wpAny M A (f v) Q' E s) l rs → Q rs s → wpAny M A (l.mapM f) Q E s
  | _, _, _, .nil, h => by rw [List.mapM_nil]; exact wpAny_pure h
  | _, _, Q, .cons (b := r) (bs := rs) h1 t, h => by
    rw [List.mapM_cons]
    exact wpAny_bind (h1 _ (wpAny_bind (mapM_each (Q := fun bs s' => wpAny M A (pure (r :: bs)) Q E s') t (wpAny_pure h))))
theorem kind_tups {vs : List Value} {ds : List PyData} {Q : SortKind → Shared → Prop} (e : EachIs (fun v d => ∃ as, Reads s.heap v d as) vs (.tuple [] :: ds)) (ht : ∀ d ∈ ds, ∃ xs, d = .tuple xs) (h : Q oneType' s) : wpAny (model prog w) A (keyKind' vs.toArray) Q E s := by
  have hT : ∀ v ∈ vs, Looks (model prog w) s.heap (typeOf v) (.type "tuple") := fun v hv => by
    obtain ⟨d, hd, as, r⟩ := e.left v hv
    have e1 : ∃ xs, d = .tuple xs := by
      rcases List.mem_cons.mp hd with rfl | hd
      · exact ⟨[], rfl⟩
      · exact ht d hd
    obtain ⟨xs, rfl⟩ := e1
    exact looks_reads r
  have firsts : ∀ {vs : List Value} {ds : List PyData}, EachIs (fun v d => ∃ as, Reads s.heap v d as) vs ds → (∀ d ∈ ds, ∃ xs, d = .tuple xs) → ∃ rs : List (Option Value), EachIs (fun v r => ∀ (Q' : Option Value → Shared → Prop), Q' r s → wpAny (model prog w) A (firstOfTuple' v) Q' E s) vs rs := by
    intro vs ds e
    induction e with
    | nil => exact fun _ => ⟨[], .nil⟩
    | cons h1 t ih =>
      intro hd
      obtain ⟨rs, hr⟩ := ih fun d hm => hd d (List.mem_cons_of_mem _ hm)
      obtain ⟨xs, rfl⟩ := hd _ List.mem_cons_self
      obtain ⟨as, r⟩ := h1
      cases r with
      | @tuple l o its n _ _ g1 g2 g3 g4 =>
        refine ⟨its[0]? :: rs, .cons (fun Q' hq => ?_) hr⟩
        rw [kas_first_eq]
        refine wpAny_bind ((show Looks (model prog w) s.heap (typeOf (Value.ref l)) (Value.type "tuple") from looks_reads (Reads.tuple g1 g2 g3 g4)).here ?_)
        rw [if_neg (by decide)]
        refine wpAny_bind (m := Builtin.List.listItems (.ref l)) ?_
        unfold Builtin.List.listItems
        exact wpAny_bind (wpAny_seqItems g1 g3 (wpAny_pure (wpAny_pure hq)))
  cases e with
  | @cons v0 _ vs0 _ h1 t =>
    obtain ⟨rs, hr⟩ := firsts t ht
    obtain ⟨as, r⟩ := h1
    cases r with
    | @tuple l o its n _ _ g1 g2 g3 g4 =>
      have e0 : its[0]? = none := by
        have : its.size = 0 := by simpa using ReadsAll.length _ _ _ g4
        simp [this]
      have h0 : ∀ (Q' : Option Value → Shared → Prop), Q' none s → wpAny (model prog w) A (firstOfTuple' (.ref l)) Q' E s := fun Q' hq => by
        rw [kas_first_eq]
        refine wpAny_bind ((show Looks (model prog w) s.heap (typeOf (Value.ref l)) (Value.type "tuple") from looks_reads (Reads.tuple g1 g2 g3 g4)).here ?_)
        rw [if_neg (by decide)]
        refine wpAny_bind (m := Builtin.List.listItems (.ref l)) ?_
        unfold Builtin.List.listItems
        refine wpAny_bind (wpAny_seqItems g1 g3 (wpAny_pure (wpAny_pure ?_)))
        rw [e0]
        exact hq
      rw [keyKind'_eq, List.mapM_toArray, map_eq_pure_bind]
      refine wpAny_bind (wpAny_bind (mapM_each (EachIs.cons h0 hr) (wpAny_pure ?_)))
      rw [if_neg (by simp), if_neg (by simp)]
      rw [oneTypeOnly'_eq, List.mapM_toArray, map_eq_pure_bind]
      refine wpAny_bind (wpAny_bind (wpAny_bind (kas_mapM (r := Value.type "tuple") _ (fun v hv Q' hq => (hT v hv).here hq) (wpAny_pure ?_))))
      have hall : ((List.map (fun _ => Value.type "tuple") (Value.ref l :: vs0)).toArray.all fun x => x == Value.type "tuple") = true := by
        simp only [List.all_toArray, List.all_map, List.all_eq_true]
        intro _ _
        exact beq_self_eq_true (Value.type "tuple")
      have hh0 : (List.map (fun _ => Value.type "tuple") (Value.ref l :: vs0)).toArray[0]? = some (Value.type "tuple") := by simp
      rw [hh0]
      simp only [hall, if_true]
      exact wpAny_pure (wpAny_pure h)
end
end DL
/-! D layer, part 18: sorted of tuples the first of which is empty, over data; a list times a number that is changed later. -/
namespace DL
open PySem PySem.Spec PyProof.Rows L2 PySem.W
theorem shut_ex {α : Type} (a : α) : ∃ b, b = a := ⟨a, rfl⟩
/-- a word that Lean never opens by itself -/
noncomputable def shut {α : Type} (a : α) : α := Classical.choose (shut_ex a)
theorem shut_eq {α : Type} (a : α) : shut a = a := Classical.choose_spec (shut_ex a)
theorem app3 {f g : MS} (h : f = g) {D : EndsD} {δ : DEnv} {S : Store} : f D δ S = g D δ S := by rw [h]
theorem app4 {f g : GX} (h : f = g) {ds : List DV} {S : Store} {Q : MK DV} {E : MX} : f ds S Q E = g ds S Q E := by rw [h]
/-- what is never reached -/
theorem d_never {X : Cx} {W : WX} {b : List Stmt} : DB X W b fun _ _ _ => False := ⟨fun pins s σ H D I ⟨_, _, _, _, _, m, _⟩ => m.elim⟩
def Tups (ps : List PyData) : Prop := ∃ qs, ps = .tuple [] :: qs ∧ ∀ p ∈ qs, ∃ xs, p = .tuple xs
theorem Tups.all {ps : List PyData} (h : Tups ps) : ∀ p ∈ ps, ∃ xs, p = .tuple xs := by
  obtain ⟨qs, rfl, hq⟩ := h
  intro p hp
  rcases List.mem_cons.mp hp with rfl | hp
  · exact ⟨[], rfl⟩
  · exact hq p hp
theorem sortsAt_tups {prog : Program} {w : World} {A : Around} {s : Shared} {vs : List Value} {ds : List PyData} (e : EachIs (fun v d => ∃ as, Reads s.heap v d as) vs ds) (hal : AllAlike ds) (ht : Tups ds) (hu : ∀ d, d ∈ ds → A.units + d.depth < cLine) : SortsAt prog w A s (dataKind s.heap ds) vs := by
  refine ⟨fun v hv => ?_, oneType', ?_, fun h2 E Q hq => ?_⟩
  · obtain ⟨d, hd, as, r⟩ := e.left v hv
    exact ⟨_, dataKind_some hal hd r⟩
  · intro E x y a b Q ha hb hq
    obtain ⟨d, as, hd, ra, rfl⟩ := dataKind_inv ha
    obtain ⟨d', as', hd', rb, rfl⟩ := dataKind_inv hb
    obtain ⟨xs, rfl⟩ := ht.all d hd
    obtain ⟨ys, rfl⟩ := ht.all d' hd'
    rw [keyLt'_oneType]
    exact oneLt_tups ra rb (hal _ hd _ hd') (Nat.lt_of_le_of_lt (Nat.add_le_add_left (Nat.min_le_left _ _) _) (hu _ hd)) hq
  · obtain ⟨qs, rfl, hq'⟩ := ht
    exact kind_tups e hq' hq
/-- sorted of a list of tuples, the first one empty -/
def gSortedE : GN
  | [.lst ds], S, Q => ∃ ps, toPs ds = some ps ∧ AllAlike ps ∧ Tups ps ∧ ds.length ≤ 16777216 ∧ (∀ p ∈ ps, p.depth ≤ 60) ∧ Q (.lst (((ds.zip ps).mergeSort (dataLe false Prod.snd)).map Prod.fst)) S
  | _, _, _ => False
section
variable {X : Cx}
theorem cd_sortedE (hu : X.A.units + 64 < cLine) : CallD X (.builtin "sorted") gSortedE := by
  intro pins s σ H xs us Q I rx h
  obtain ⟨Γ, S, ds, Qd, R, r1, hg, kq⟩ := h
  obtain ⟨xs', rfl, ps, hp, hal, hso, hl, hd, q⟩ : ∃ xs, ds = [.lst xs] ∧ ∃ ps, toPs xs = some ps ∧ AllAlike ps ∧ Tups ps ∧ xs.length ≤ 16777216 ∧ (∀ p ∈ ps, p.depth ≤ 60) ∧ Qd (.lst (((xs.zip ps).mergeSort (dataLe false Prod.snd)).map Prod.fst)) S := by
    clear r1
    unfold gSortedE at hg
    split at hg
    · exact ⟨_, rfl, hg⟩
    · exact hg.elim
  obtain ⟨v, rfl, r⟩ := r1.one
  obtain ⟨p, vs, rfl, h1, h2⟩ := R.lst r
  obtain ⟨its, rv, hli, hz⟩ := I.list (SqL.of h1)
  obtain ⟨u, ws, rfl, ru, rn⟩ := vals_cons rx
  cases (show u = Value.ref p from ru)
  cases vals_nil rn
  obtain ⟨e1, e2⟩ := each_of I R xs' ps vs its h2 hp rv
  have hpl := toPs_len hp
  have em : (xs'.zip ps).map Prod.snd = ps := List.map_snd_zip (by omega)
  have lz : (xs'.zip ps).length = xs'.length := by rw [List.length_zip]; omega
  have e3 : EachIs (fun u (b : DV × PyData) => ∃ as, Reads (sortingHeap (copyHeap s.heap its) (s.heap.objs.size + 1) its) u b.2 as) its (xs'.zip ps) := e2.mono fun _ _ ⟨as, r⟩ => ⟨as, PyProof.Rows.Reads.keeps (fun _ _ => sorting_copy_old) r⟩
  have lits : its.length ≤ sizeLine := by
    rw [← rv.length]
    exact hz
  refine sorted_vals (κ := dataKind (sortingHeap (copyHeap s.heap its) (s.heap.objs.size + 1) its) ((xs'.zip ps).map Prod.snd)) hli.isList (sortsAt_tups (s := { s with heap := sortingHeap (copyHeap s.heap its) (s.heap.objs.size + 1) its }) (each_map (R := fun v d => ∃ as, Reads (sortingHeap (copyHeap s.heap its) (s.heap.objs.size + 1) its) v d as) Prod.snd e3) (by rw [em]; exact hal) (by rw [em]; exact hso) fun d hdm => ?_) lits ?_
  · rw [em] at hdm
    have := hd d hdm
    show X.A.units + 2 + d.depth < cLine
    omega
  · have er := sortVals_data (h' := sortingHeap (copyHeap s.heap its) (s.heap.objs.size + 1) its) (enc := Prod.snd) false e1 e3 (by rw [em]; exact hal)
    obtain ⟨vs', g1, g2⟩ := each_back er
    have ho := sortVals_length (κ := dataKind (sortingHeap (copyHeap s.heap its) (s.heap.objs.size + 1) its) ((xs'.zip ps).map Prod.snd)) false (ks := its) (vs := its) rfl
    generalize sortVals (dataKind (sortingHeap (copyHeap s.heap its) (s.heap.objs.size + 1) its) ((xs'.zip ps).map Prod.snd)) false its its = out at er g2 ho
    obtain ⟨ep, he'⟩ := PyProof.Rows.sortedAll_at s.heap its out.toArray
    have hlen : vs'.length ≤ sizeLine := by
      rw [g2.length, ho]
      exact lits
    exact ⟨.ref _, upd H (s.heap.objs.size + 1) (.lst vs'), I.laid (t' := s.toks) (fun _ _ => PyProof.Rows.sortedAll_old) (Nat.le_succ _) ⟨hlen, out, ep, g2, he'⟩, rfl, kq.newL R (I.hok.fresh (Nat.le_succ _)) g1 q⟩
/-- a list times a number, a list that is changed later -/
def fMulO : G2
  | .lst xs, .int k, S, Q => -(2 ^ 63) ≤ k ∧ k < 2 ^ 63 ∧ xs.length * k.toNat ≤ 16777216 ∧ Q (.ref S.length) (S ++ [some (.lst (List.replicate k.toNat xs).flatten)])
  | _, _, _, _ => False
theorem opd_mulO : OpD X (binaryOp .Mult) fMulO := by
  intro pins s σ H x y v u Q I rx ry h
  obtain ⟨Γ, S, dx, dy, Qd, R, r1, r2, hg, kq⟩ := h
  cases dx with
  | lst xs =>
    cases dy with
    | int k =>
      obtain ⟨a, vs, rfl, h1, h2⟩ := R.lst r1
      cases r2.int
      obtain ⟨c1, c2, c3, hg⟩ := hg
      have key : ∀ n : Nat, RVs X.K Γ (List.replicate n xs).flatten (List.replicate n vs).flatten := by
        intro n
        induction n with
        | zero => exact rfl
        | succ n ih =>
          rw [List.replicate_succ, List.replicate_succ, List.flatten_cons, List.flatten_cons]
          exact h2.append ih
      exact op_rep pins s σ H _ _ v u Q I rx ry ⟨a, k, vs, rfl, rfl, h1, c1, c2, by rw [← h2.length]; exact line_le c3, fun p hp => kq.push (d := .lst (List.replicate k.toNat xs).flatten) R hp ⟨_, rfl, key _⟩ hg⟩
    | _ => exact False.elim hg
  | _ => cases dy <;> exact False.elim hg
end
end DL
/-! D layer, part 19: a list beside the empty list. -/
namespace DL
open PySem PySem.Spec PyProof.Rows L2 PySem.W PySem.SeqAt
/-- the items of a list -/
def lstD (S : Store) : DV → Option (List DV)
  | .lst ds => some ds
  | .frz ds => some ds
  | .ref i => match S[i]? with
    | some (some (.lst ds)) => some ds
    | _ => none
  | _ => none
/-- xs == [], xs != [] -/
def fEqN (q : Bool → Bool) : G2 := fun x y S Q => y = .lst [] ∧ match lstD S x with
  | some ds => Q (.bl (q ds.isEmpty)) S
  | none => False
theorem lstD_of {K : PySem.W.Frag} {Γ : AG} {S : Store} {H : Hp} {d : DV} {v : V} {ds : List DV} (R : Rs K Γ S H) (r : RV K Γ d v) (e : lstD S d = some ds) : ∃ p vs, v = .ref p ∧ SqL K H p vs ∧ RVs K Γ ds vs := by
  cases d with
  | lst cs =>
    cases e
    obtain ⟨p, vs, h1, h2, h3⟩ := R.lst r
    exact ⟨p, vs, h1, SqL.of h2, h3⟩
  | frz cs =>
    cases e
    exact R.frz r
  | ref i =>
    have e' : (match S[i]? with
      | some (some (DO.lst ds)) => some ds
      | _ => none) = some ds := e
    cases h : S[i]? with
    | none =>
      rw [h] at e'
      cases e'
    | some o =>
      cases o with
      | none =>
        rw [h] at e'
        cases e'
      | some o =>
        cases o with
        | lst cs =>
          rw [h] at e'
          cases e'
          obtain ⟨a, h1, h2, vs, h3, h4⟩ := R.ref r h
          exact ⟨a, vs, h1, SqL.of h3, h4⟩
        | ins _ _ =>
          rw [h] at e'
          cases e'
        | dct _ =>
          rw [h] at e'
          cases e'
  | _ => cases e
section
variable {X : Cx}
theorem eqN_run {pins : List (Addr × Obj)} {s : Shared} {σ : L2.St} {H : Hp} {x y : V} {v u : Value} {Q : VK} (hu : X.A.units + 64 < cLine) (I : Inv X pins σ H s) (rx : RelV x v) (ry : RelV y u) {Γ : AG} {S : Store} {dx dy : DV} {Qd : MK DV} (R : Rs X.K Γ S H) (r1 : RV X.K Γ dx x) (r2 : RV X.K Γ dy y)
    (kq : KQ (RV X.K) X.K Γ Qd Q) : (fEqN (fun b => b) dx dy S Qd → wpAny (model X.prog X.w) X.A (compareOp .Eq v u) (EP X pins σ Q) X.xe s) ∧ (fEqN (fun b => !b) dx dy S Qd → wpAny (model X.prog X.w) X.A (compareOp .NotEq v u) (EP X pins σ Q) X.xe s) := by
  have key : ∀ {q : Bool → Bool}, fEqN q dx dy S Qd → ∃ (a b : Addr) (its its2 : List Value), v = .ref a ∧ u = .ref b ∧ s.heap.IsList a its.toArray ∧ s.heap.IsList b its2.toArray ∧ its2 = [] ∧ Qd (.bl (q its.isEmpty)) S := by
    intro q ⟨hy, h⟩
    subst hy
    cases e : lstD S dx with
    | none =>
      rw [e] at h
      exact h.elim
    | some ds =>
      rw [e] at h
      obtain ⟨a, vs, rfl, ha, hv⟩ := lstD_of R r1 e
      obtain ⟨b, ws, rfl, hb, hw⟩ := R.lst r2
      cases (show ws = [] from hw)
      cases rx
      cases ry
      obtain ⟨its, rv, l1, _⟩ := I.list ha
      obtain ⟨its2, rv2, l2, _⟩ := I.list (.inl (.inl hb))
      cases vals_nil rv2
      have pl : ∀ {a : Addr} {it : Array Value}, PlainL s.heap a it → s.heap.IsList a it := fun ⟨o, n, h1, h2, h3, h4⟩ => ⟨o, h1, h2, n, h4⟩
      refine ⟨a, b, its, [], rfl, rfl, pl l1, pl l2, rfl, ?_⟩
      have e1 : ds.isEmpty = its.isEmpty := by
        have h1 := hv.length
        have h2 := rv.length
        cases ds <;> cases its <;> simp_all
      rw [← e1]
      exact h
  constructor
  · intro h
    obtain ⟨a, b, its, its2, rfl, rfl, l1, l2, rfl, hq⟩ := key h
    cases its with
    | nil => exact PySem.SeqAt.RcAt.lists (e := fun _ => true) l1 l2 rfl (by omega) (fun j h1 => absurd h1 (by simp)) _ _ _ _ ⟨.bl true, H, I, rfl, kq.here (d := .bl true) R rfl hq⟩
    | cons z its => exact PySem.SeqAt.RcAt.lists_lengths l1 l2 (by simp) (by omega) _ _ _ _ ⟨.bl false, H, I, rfl, kq.here (d := .bl false) R rfl hq⟩
  · intro h
    obtain ⟨a, b, its, its2, rfl, rfl, l1, l2, rfl, hq⟩ := key h
    cases its with
    | nil => exact PySem.SeqAt.RcNeAt.lists (e := fun _ => true) l1 l2 rfl (by omega) (fun j h1 => absurd h1 (by simp)) _ _ _ _ ⟨.bl false, H, I, rfl, kq.here (d := .bl false) R rfl hq⟩
    | cons z its => exact PySem.SeqAt.RcNeAt.lists_lengths l1 l2 (by simp) (by omega) _ _ _ _ ⟨.bl true, H, I, rfl, kq.here (d := .bl true) R rfl hq⟩
theorem opd_eqN (hu : X.A.units + 64 < cLine) : OpD X (compareOp .Eq) (fEqN fun b => b) := by
  intro pins s σ H x y v u Q I rx ry ⟨Γ, S, dx, dy, Qd, R, r1, r2, hg, kq⟩
  exact (eqN_run hu I rx ry R r1 r2 kq).1 hg
theorem opd_neN (hu : X.A.units + 64 < cLine) : OpD X (compareOp .NotEq) (fEqN fun b => !b) := by
  intro pins s σ H x y v u Q I rx ry ⟨Γ, S, dx, dy, Qd, R, r1, r2, hg, kq⟩
  exact (eqN_run hu I rx ry R r1 r2 kq).2 hg
end
theorem fEqN_l {q : Bool → Bool} {ds : List DV} {S : Store} {Q : MK DV} : fEqN q (.lst ds) (.lst []) S Q = Q (.bl (q ds.isEmpty)) S := by
  show (DV.lst [] = DV.lst [] ∧ Q (.bl (q ds.isEmpty)) S) = _
  rw [eq_self, true_and]
end DL
/-! D layer, part 20: methods of lists and texts. -/
namespace DL
open PySem PySem.Spec PyProof.Rows L2 PySem.W
abbrev GM := DV → List DV → Store → MK DV → Prop
def tOM (K : PySem.W.Frag) (g : GM) : V → List V → Hp → VK → Prop := fun x xs H Q => ∃ Γ S dx ds Qd, Rs K Γ S H ∧ RV K Γ dx x ∧ RVs K Γ ds xs ∧ g dx ds S Qd ∧ KQ (RV K) K Γ Qd Q
def MtD (X : Cx) (id : String) (g : GM) : Prop := MtR X id (tOM X.K g)
theorem mtd_of {X : Cx} {id : String} {g : GM} {r : V → List V → Hp → VK → Prop} (ho : MtR X id r)
    (i : ∀ Γ S H dx ds x xs Qd Q, Rs X.K Γ S H → RV X.K Γ dx x → RVs X.K Γ ds xs → g dx ds S Qd → KQ (RV X.K) X.K Γ Qd Q → r x xs H Q) : MtD X id g := by
  intro pins s σ H x xs v us Q I rx rs ⟨Γ, S, dx, ds, Qd, R, r1, r2, hg, kq⟩
  exact ho pins s σ H x xs v us Q I rx rs (i Γ S H dx ds x xs Qd Q R r1 r2 hg kq)
/-- of that built-in type -/
def tyM (T : String) (d : DV) (S : Store) : Prop := match d with
  | .str _ => T = "str"
  | d => T = "list" ∧ (lstD S d).isSome = true
def mMeth (T : String) (g : GM) (a : ME) (as : MA) : ME := fun δ S Q E => a δ S (fun x S1 => tyM T x S1 ∧ as δ S1 (fun xs S2 => g x xs S2 Q) E) E
def mMeth0 (T : String) (g : GM) (a : ME) : ME := fun δ S Q E => a δ S (fun x S1 => tyM T x S1 ∧ g x [] S1 Q) E
theorem tyM_of {K : PySem.W.Frag} {Γ : AG} {S : Store} {H : Hp} {T : String} {d : DV} {v : V} (R : Rs K Γ S H) (r : RV K Γ d v) (h : tyM T d S) : tyV K T v H := by
  have key : (T = "list" ∧ (lstD S d).isSome = true) → tyV K T v H := fun ⟨h1, h2⟩ => by
    cases e : lstD S d with
    | none =>
      rw [e] at h2
      cases h2
    | some ds =>
      obtain ⟨p, vs, rfl, h3, _⟩ := lstD_of R r e
      exact .inl ⟨h1, vs, h3⟩
  cases d with
  | str x =>
    cases (show v = .str x from r)
    exact h
  | _ => exact key h
section
variable {X : Cx} {W : WX} {o e : Expr} {es : List Expr} {mo : ME} {mas : MA} {name : Str} {apos cpos : Pos} {T id : String} {g : GM}
theorem d_bm (pa : PlainAttrs T) (slot : Slot T name id) (hty : typeOf (.builtin id) = pure (.type "method_descriptor")) (hm : MtD X id g) (ho : DE X W o mo) (ha : DA X W (e :: es) mas)
    (hbase : attributeBase o name X.env (eval o X.env) = eval o X.env := by rfl)
    (hfew : ((backTo cpos (starEach (e :: es) X.env)).all (fun x => !x.1) && (backToKw cpos (keywordEach [] X.env)).all (fun x => x.1.isSome)
      && decide ((e :: es).length + ([] : List Keyword).length + (if ([] : List Keyword).isEmpty then 0 else 1) < 30)) = true := by rfl)
    (hline : (apos.endLine == cpos.line) = true := by rfl) (hs : starEach (e :: es) X.env = (false, eval e X.env) :: starEach es X.env := by rfl) (hplain : (backTo cpos (starEach es X.env)).any (·.1) = false := by rfl) :
    DE X W (.Call (.Attribute o name apos) (e :: es) [] cpos) (mMeth T g mo mas) :=
  PE.imp (pe_bm pa slot hty hm ho ha hbase hfew hline hs hplain) fun σ H Q ⟨Γ, S, δ, Qd, Ed, c, m, kq, ke⟩ => ⟨Γ, S, δ, _, Ed, c, m, fun Γ1 S1 H1 d1 v1 e1 R1 r1 q1 =>
    ⟨tyM_of R1 r1 q1.1, Γ1, S1, δ, _, Ed, c.mk' R1 e1, q1.2, fun Γ2 S2 H2 ds vs e2 R2 r2 q2 => ⟨Γ2, S2, d1, ds, Qd, R2, RV.mono e2 _ _ r1, r2, q2, kq.mono (e1.trans e2)⟩, ke.mono e1⟩, ke⟩
theorem d_bm0 (pa : PlainAttrs T) (slot : Slot T name id) (hty : typeOf (.builtin id) = pure (.type "method_descriptor")) (hm : MtD X id g) (ho : DE X W o mo)
    (hbase : attributeBase o name X.env (eval o X.env) = eval o X.env := by rfl) (hline : (apos.endLine == cpos.line) = true := by rfl) :
    DE X W (.Call (.Attribute o name apos) [] [] cpos) (mMeth0 T g mo) :=
  PE.imp (pe_bm0 pa slot hty hm ho hbase hline) fun σ H Q ⟨Γ, S, δ, Qd, Ed, c, m, kq, ke⟩ => ⟨Γ, S, δ, _, Ed, c, m, fun Γ1 S1 H1 d1 v1 e1 R1 r1 q1 =>
    ⟨tyM_of R1 r1 q1.1, Γ1, S1, d1, [], Qd, R1, r1, rfl, q1.2, kq.mono e1⟩, ke⟩
end
/-! ### lists -/
/-- a mutable list -/
def mutL (S : Store) : DV → Option (Nat × List DV)
  | .ref i => match S[i]? with
    | some (some (.lst ds)) => some (i, ds)
    | _ => none
  | _ => none
theorem mutL_of {K : PySem.W.Frag} {Γ : AG} {S : Store} {H : Hp} {d : DV} {v : V} {i : Nat} {ds : List DV} (R : Rs K Γ S H) (r : RV K Γ d v) (e : mutL S d = some (i, ds)) : S[i]? = some (some (.lst ds)) ∧ ∃ a vs, v = .ref a ∧ Γ.A[i]? = some a ∧ H a = some (.lst vs) ∧ RVs K Γ ds vs := by
  cases d with
  | ref j =>
    have e' : (match S[j]? with
      | some (some (DO.lst ds)) => some (j, ds)
      | _ => none) = some (i, ds) := e
    match h : S[j]? with
    | some (some (.lst cs)) =>
      rw [h] at e'
      cases e'
      obtain ⟨a, h1, h2, vs, h3, h4⟩ := R.ref r h
      exact ⟨h, a, vs, h1, h2, h3, h4⟩
    | some (some (.ins _ _)) => rw [h] at e'; cases e'
    | some (some (.dct _)) => rw [h] at e'; cases e'
    | some none => rw [h] at e'; cases e'
    | none => rw [h] at e'; cases e'
  | _ => cases e
def gAppend : GM := fun x xs S Q => ∃ i ds d, mutL S x = some (i, ds) ∧ xs = [d] ∧ ds.length < 16777216 ∧ Q .non (S.set i (some (.lst (ds ++ [d]))))
def gExtend : GM := fun x xs S Q => ∃ i ds d es, mutL S x = some (i, ds) ∧ xs = [d] ∧ d = .lst es ∧ ds.length + es.length ≤ 16777216 ∧ Q .non (S.set i (some (.lst (ds ++ es))))
def gPop : GM := fun x xs S Q => ∃ i ds d, mutL S x = some (i, ds) ∧ xs = [] ∧ ds[ds.length - 1]? = some d ∧ Q d (S.set i (some (.lst ds.dropLast)))
def gPopAt : GM := fun x xs S Q => ∃ i ds d j k, mutL S x = some (i, ds) ∧ xs = [.int j] ∧ -(2 ^ 63) ≤ j ∧ j < 2 ^ 63 ∧ seqIndex? j ds.length = some k ∧ ds[k]? = some d ∧ Q d (S.set i (some (.lst (ds.eraseIdx k))))
theorem RVs.dropLast {K : PySem.W.Frag} {Γ : AG} : ∀ {ds : List DV} {vs : List V}, RVs K Γ ds vs → RVs K Γ ds.dropLast vs.dropLast
  | [], vs, h => by
    cases (show vs = [] from h)
    rfl
  | [d], vs, h => by
    obtain ⟨v, us, rfl, h2, h3⟩ := h
    cases (show us = [] from h3)
    rfl
  | d :: e :: ds, vs, h => by
    obtain ⟨v, us, rfl, h2, w, ws, rfl, h3, h4⟩ := h
    exact ⟨v, (w :: ws).dropLast, rfl, h2, RVs.dropLast (ds := e :: ds) (vs := w :: ws) ⟨w, ws, rfl, h3, h4⟩⟩
theorem RVs.eraseIdx {K : PySem.W.Frag} {Γ : AG} : ∀ {ds : List DV} {vs : List V} (k : Nat), RVs K Γ ds vs → RVs K Γ (ds.eraseIdx k) (vs.eraseIdx k)
  | [], vs, k, h => by
    cases (show vs = [] from h)
    rfl
  | d :: ds, vs, 0, h => by
    obtain ⟨v, us, rfl, h2, h3⟩ := h
    exact h3
  | d :: ds, vs, k + 1, h => by
    obtain ⟨v, us, rfl, h2, h3⟩ := h
    exact ⟨v, us.eraseIdx k, rfl, h2, RVs.eraseIdx k h3⟩
section
variable {X : Cx}
theorem mtd_append : MtD X "list.append" gAppend := mtd_of mt_append fun Γ S H dx ds x xs Qd Q R r1 r2 ⟨i, es, d, h1, h2, h3, h4⟩ kq => by
  subst h2
  obtain ⟨hs, a, vs, rfl, ha, hv, rv⟩ := mutL_of R r1 h1
  obtain ⟨v, rfl, rd⟩ := r2.one
  exact ⟨a, vs, v, rfl, rfl, hv, by rw [← rv.length, sizeLine_eq]; exact h3, kq Γ _ _ .non .non (Ext.refl Γ) (R.write (d := .lst (es ++ [d])) hs ha ⟨_, rfl, RVs.snoc (Γ := Γ) rv rd⟩) rfl h4⟩
theorem mtd_extend : MtD X "list.extend" gExtend := mtd_of mt_extend fun Γ S H dx ds x xs Qd Q R r1 r2 ⟨i, es, d, fs, h1, h2, h5, h3, h4⟩ kq => by
  subst h2 h5
  obtain ⟨hs, a, vs, rfl, ha, hv, rv⟩ := mutL_of R r1 h1
  obtain ⟨v, rfl, rd⟩ := r2.one
  obtain ⟨b, ws, rfl, hb, rw_⟩ := R.lst rd
  exact ⟨a, b, vs, ws, rfl, rfl, hv, hb, by rw [← rv.length, ← rw_.length, sizeLine_eq]; exact h3, kq Γ _ _ .non .non (Ext.refl Γ) (R.write (d := .lst (es ++ fs)) hs ha ⟨_, rfl, RVs.append (Γ := Γ) rv rw_⟩) rfl h4⟩
theorem mtd_pop : MtD X "list.pop" gPop := mtd_of mt_pop fun Γ S H dx ds x xs Qd Q R r1 r2 ⟨i, es, d, h1, h2, h3, h4⟩ kq => by
  subst h2
  obtain ⟨hs, a, vs, rfl, ha, hv, rv⟩ := mutL_of R r1 h1
  cases (show xs = [] from r2)
  obtain ⟨v, e1, rd⟩ := rv.get h3
  exact ⟨a, vs, v, rfl, rfl, hv, by rw [← rv.length]; exact e1, kq Γ _ _ d v (Ext.refl Γ) (R.write (d := .lst es.dropLast) hs ha ⟨_, rfl, RVs.dropLast (Γ := Γ) rv⟩) rd h4⟩
theorem mtd_popAt : MtD X "list.pop" gPopAt := mtd_of mt_popAt fun Γ S H dx ds x xs Qd Q R r1 r2 ⟨i, es, d, j, k, h1, h2, b1, b2, h3, h5, h4⟩ kq => by
  subst h2
  obtain ⟨hs, a, vs, rfl, ha, hv, rv⟩ := mutL_of R r1 h1
  obtain ⟨w, rfl, rw_⟩ := r2.one
  cases rw_.int
  obtain ⟨v, e1, rd⟩ := rv.get h5
  exact ⟨a, vs, j, k, v, rfl, rfl, hv, b1, b2, by rw [← rv.length]; exact h3, e1, kq Γ _ _ d v (Ext.refl Γ) (R.write (d := .lst (es.eraseIdx k)) hs ha ⟨_, rfl, RVs.eraseIdx (Γ := Γ) k rv⟩) rd h4⟩
end
/-! ### texts -/
def strsV (xs : List Str) : List DV := xs.map DV.str
theorem rvs_strs {K : PySem.W.Frag} {Γ : AG} : ∀ xs : List Str, RVs K Γ (strsV xs) (xs.map V.str)
  | [] => rfl
  | x :: xs => ⟨_, _, rfl, rfl, rvs_strs xs⟩
theorem rvs_strs' {K : PySem.W.Frag} {Γ : AG} : ∀ {xs : List Str} {vs : List V}, RVs K Γ (strsV xs) vs → vs = xs.map V.str
  | [], vs, h => h
  | x :: xs, vs, h => by
    obtain ⟨v, us, rfl, h2, h3⟩ := h
    rw [rvs_strs' h3, show v = V.str x from h2]
    rfl
/-- sep.join(texts) -/
def gJoin : GM := fun x xs S Q => ∃ a d ys, x = .str a ∧ xs = [d] ∧ (seqD S d = some (strsV ys)) ∧ (ys.map (·.length)).sum + ys.length * a.length ≤ 16777216 ∧ Q (.str (Txt.join a ys)) S
/-- text.split(sep) -/
def gSplit : GM := fun x xs S Q => ∃ a b, x = .str a ∧ xs = [.str b] ∧ (b.length == 0) = false ∧ a.length + 2 ≤ 16777216 ∧ Q (.lst (strsV (Txt.split a b))) S
def gFind : GM := fun x xs S Q => ∃ a b, x = .str a ∧ xs = [.str b] ∧ Q (.int (Txt.find a b)) S
/-- a sign in a text -/
def fInS (q : Bool → Bool) : G2 := fun x y S Q => ∃ (c : Nat) (z : Str), x = .str ⟨#[c]⟩ ∧ y = .str z ∧ Q (.bl (q (decide (c ∈ z.cps.toList)))) S
/-- int(text) -/
def gIntS : GN := fun xs S Q => ∃ a n, xs = [.str a] ∧ PySem.intText? a = some n ∧ a.length ≤ 640 ∧ Q (.int n) S
section
variable {X : Cx}
theorem mtd_join : MtD X "str.join" gJoin := mtd_of mt_join fun Γ S H dx ds x xs Qd Q R r1 r2 ⟨a, d, ys, h1, h2, h3, h4, h5⟩ kq => by
  subst h1 h2
  cases (show x = .str a from r1)
  obtain ⟨v, rfl, rd⟩ := r2.one
  obtain ⟨p, vs, rfl, hq, rv, _⟩ := seqD_of R rd h3
  cases rvs_strs' rv
  exact ⟨a, p, ys, rfl, rfl, hq, h4, kq.here (d := .str _) R rfl h5⟩
theorem mtd_split : MtD X "str.split" gSplit := mtd_of mt_split fun Γ S H dx ds x xs Qd Q R r1 r2 ⟨a, b, h1, h2, h3, h4, h5⟩ kq => by
  subst h1 h2
  cases (show x = .str a from r1)
  obtain ⟨v, rfl, rd⟩ := r2.one
  cases (show v = .str b from rd)
  exact ⟨a, b, rfl, rfl, h3, line_le h4, fun p hp => kq.newL R hp (rvs_strs _) h5⟩
theorem mtd_find : MtD X "str.find" gFind := mtd_of mt_find fun Γ S H dx ds x xs Qd Q R r1 r2 ⟨a, b, h1, h2, h5⟩ kq => by
  subst h1 h2
  cases (show x = .str a from r1)
  obtain ⟨v, rfl, rd⟩ := r2.one
  cases (show v = .str b from rd)
  exact ⟨a, b, rfl, rfl, kq.here (d := .int _) R rfl h5⟩
theorem opd_inS : OpD X (compareOp .In) (fInS fun b => b) := opD_of op_in_sign fun Γ S H dx dy x y Qd Q R r1 r2 ⟨c, z, h1, h2, h3⟩ kq => by
  subst h1 h2
  exact ⟨c, z, r1, r2, kq.here (d := .bl _) R rfl h3⟩
theorem opd_notInS : OpD X (compareOp .NotIn) (fInS fun b => !b) := opD_of op_notIn_sign fun Γ S H dx dy x y Qd Q R r1 r2 ⟨c, z, h1, h2, h3⟩ kq => by
  subst h1 h2
  exact ⟨c, z, r1, r2, kq.here (d := .bl _) R rfl h3⟩
theorem cd_intS : CallD X (.type "int") gIntS := callD_of call_int_str fun Γ S H ds xs Qd Q R r1 ⟨a, n, h1, h2, h3, h4⟩ kq => by
  subst h1
  obtain ⟨v, rfl, rd⟩ := r1.one
  cases (show v = .str a from rd)
  exact ⟨a, n, rfl, h2, h3, kq.here (d := .int _) R rfl h4⟩
end
/-! ### what is never reached -/
def mNever : ME := fun _ _ _ _ => False
def mNeverS : MS := fun _ _ _ => False
theorem d_neverE {X : Cx} {W : WX} {e : Expr} : DE X W e mNever := ⟨fun pins s σ H Q I ⟨_, _, _, _, _, _, m, _⟩ => m.elim⟩
theorem d_neverS {X : Cx} {W : WX} {st : Stmt} : DS X W st mNeverS := ⟨fun pins s σ H D I ⟨_, _, _, _, _, m, _⟩ => m.elim⟩
/-- a text of the module's -/
theorem d_gloS {X : Cx} {W : WX} {x z : Str} {pos : Pos} (hm : ∃ t, X.mg x = some (.str z t)) (hg : Gl X x) (hn : (x == ("__debug__" : Str)) = false := by decide) : DE X W (.Name x pos) (mC (.str z)) := by
  obtain ⟨t, hm⟩ := hm
  exact d_const (v := .str z) (pe_glob hg hm ⟨t, rfl⟩ hn) fun _ => rfl
/-- a mutable list is walked, and given up -/
def iFz (a : ME) : MI := fun δ S Q E => a δ S (fun d S1 => ∃ i ds, mutL S1 d = some (i, ds) ∧ Q ds (S1.set i none)) E
theorem di_fz {X : Cx} {W : WX} {tg e : Expr} {me : ME} (he : DE X W e me) : DI X W tg e (iFz me) := PI.imp (pi_list he) fun σ H R ⟨Γ, S, δ, Qd, Ed, c, m, kq, ke⟩ => ⟨Γ, S, δ, _, Ed, c, m, fun Γ1 S1 H1 d1 v1 e1 R1 r1 q1 => by
    obtain ⟨i, ds, h1, q⟩ := q1
    obtain ⟨hs, a, vs, rfl, ha, hv, rv⟩ := mutL_of R1 r1 h1
    obtain ⟨R2, e2⟩ := R1.freeze hs ha hv
    exact ⟨a, rfl, ⟨vs, SqL.of hv⟩, kq _ _ _ _ _ (e1.trans e2) R2 (itd_lst (SqL.of upd_same) (RVs.mono e2 _ _ rv)) q⟩, ke⟩
/-! ### step by step -/
variable {a : ME} {as : MA} {δ : DEnv} {S : Store} {Q : MK DV} {E : MX} {g : GM} {x : Str} {T : String}
theorem mMeth_e {b : ME} : mMeth T g a (mCons b mNil) δ S Q E = a δ S (fun x S1 => tyM T x S1 ∧ b δ S1 (fun y S2 => g x [y] S2 Q) E) E := id rfl
theorem mMeth0_e : mMeth0 T g a δ S Q E = a δ S (fun x S1 => tyM T x S1 ∧ g x [] S1 Q) E := id rfl
theorem tyM_str : tyM "str" (.str x) S = True := eq_self _
end DL
/-! D layer, part 21: exceptions with one field; raise, try. -/
namespace DL
open PySem PySem.Spec PyProof.Rows L2 PySem.W
/-- a new exception of the class with its field -/
def tMk1 (K : PySem.W.Frag) (cn fl : Str) (ta : TA) : L2.St → Hp → XK → Prop := fun σ H Q => ta σ H fun vs H1 => ∃ v, vs = [v] ∧ ∀ d, H1 d = none → Q (.ref (He.ga K cn)) (some d) (upd H1 d (.xd [(fl, v)]))
def tBy1 (K : PySem.W.Frag) (cn fl : Str) (a : Addr) (cls : Value) (d : Option Addr) (te : TE) : TE := fun σ H Q => te σ H fun x H1 => x = .ref a ∧ cls = .ref (He.ga K cn) ∧ ∃ (dd : Addr) (v : V), d = some dd ∧ H1 dd = some (.xd [(fl, v)]) ∧ Q v H1
/-- what the rules want of an exception's class -/
structure ExcF (K : PySem.W.Frag) (mg : Str → Option Value) (cn fl : Str) : Prop where
  glo : mg cn = some (.ref (He.ga K cn))
  mks : ∀ (X : Cx), X.K = K → X.mg = mg → ∀ {k : Nat} {a : Expr} {ta : TA} {p pos : Pos}, Room k X.A → PA X [a] ta → Gl X cn → (cn == ("__debug__" : Str)) = false → starEach (a :: []) X.env = (false, eval a X.env) :: starEach [] X.env → (backTo pos (starEach [] X.env)).any (·.1) = false →
    PMk X (.Call (.Name cn p) [a] [] pos) (tMk1 K cn fl ta)
  by_ : ∀ (X : Cx), X.K = K → X.mg = mg → ∀ {a : Addr} {oe : Obj} {cls : Value} {d : Option Addr} {pn : List (Addr × Obj)} {e : Expr} {te : TE} {pos : Pos}, Zc cls d oe → (∃ vs, oe.data = .fields vs) → PE (X.suite a ((a, oe) :: pn)) e te → attributeBase e fl X.env (eval e X.env) = eval e X.env →
    PE (X.suite a ((a, oe) :: pn)) (.Attribute e fl pos) (tBy1 K cn fl a cls d te)
def mRaise1 (cn fl : Str) (a : ME) : MS := fun D δ S => a δ S (fun d S1 => D.ex ⟨cn, some [(fl, d)]⟩ δ S1) (fun x S1 => D.ex x δ S1)
section
variable {X : Cx} {W : WX} {e : Expr} {me : ME} {cn fl : Str}
theorem d_raise1 {k : Nat} {p pos pos2 : Pos} (T : ExcF X.K X.mg cn fl) (hc : X.calm = true) (hr : Room k X.A) (tk : Takes X W) (ha : DA X W [e] (mCons me mNil)) (hg : Gl X cn := by rfl) (hdb : (cn == ("__debug__" : Str)) = false := by decide)
    (he : starEach (e :: []) X.env = (false, eval e X.env) :: starEach [] X.env := by rfl) (hpl : (backTo pos (starEach [] X.env)).any (·.1) = false := by rfl) :
    DS X W (.Raise (some (.Call (.Name cn p) [e] [] pos)) none pos2) (mRaise1 cn fl me) :=
  PS.imp (ps_raise hc tk (T.mks X rfl rfl hr ha hg hdb he hpl)) fun D σ H ⟨Γ, S, δ, Dd, c, m, er⟩ => by
    refine ⟨Γ, S, δ, fun ds S1 => ∃ d, ds = [d] ∧ Dd.ex ⟨cn, some [(fl, d)]⟩ δ S1, fun x S1 => Dd.ex x δ S1, c, ?_, ?_, er.ke c⟩
    · have m' : me δ S (fun d S1 => Dd.ex ⟨cn, some [(fl, d)]⟩ δ S1) (fun x S1 => Dd.ex x δ S1) := m
      show me δ S (fun x S1 => ∃ d, [x] = [d] ∧ Dd.ex ⟨cn, some [(fl, d)]⟩ δ S1) (fun x S1 => Dd.ex x δ S1)
      have e : (fun (x : DV) (S1 : Store) => ∃ d, [x] = [d] ∧ Dd.ex ⟨cn, some [(fl, d)]⟩ δ S1) = fun d S1 => Dd.ex ⟨cn, some [(fl, d)]⟩ δ S1 := by
        funext x S1
        refine propext ⟨fun ⟨d, h1, h2⟩ => ?_, fun h => ⟨x, rfl, h⟩⟩
        cases h1
        exact h2
      rw [e]
      exact m'
    · intro Γ1 S1 H1 ds vs e1 R1 r1 ⟨d, h1, q⟩
      subst h1
      obtain ⟨v, rfl, rd⟩ := r1.one
      refine ⟨v, rfl, fun dd hd => ?_⟩
      have E2 := R1.ext hd (.xd [(fl, v)])
      exact er.ex _ S1 _ δ σ ⟨cn, some [(fl, d)]⟩ _ _ (e1.trans E2) (c.mk' (R1.laid hd _) (e1.trans E2)) ⟨rfl, dd, [(fl, v)], rfl, upd_same, v, [], rfl, RV.mono E2 _ _ rd, rfl⟩ q
/-- try: .. / except cn as n (slot i): return [w, n.fl] -/
def mTryL (i : Nat) (cs : List Str) (cn w fl : Str) (mb : MS) : MS := fun D δ S => mb { D with ex := fun x δ' S' => x.cls ∈ cs ∧ i < δ'.length ∧ (if x.cls = cn then (∃ dv, x.fs = some [(fl, dv)] ∧ D.rt (.lst [.str w, dv]) S') else D.ex x δ' S') } δ S
theorem d_tryL {i : Nat} {n w : Str} {cs : List Str} {body : List Stmt} {mb : MS} {np pos pos' q1 q2 q3 q4 q5 : Pos} {j : Nat} (T : ExcF X.K X.mg cn fl) (hN : X.N.Nodup)
    (hm : ∀ c ∈ cs, PySem.W.exmOne X.K (.ref (He.ga X.K c)) (.ref (He.ga X.K cn)) = some (decide (c = cn))) (tk : Takes X W)
    (hb : ∀ (W : WX) (pn : List (Addr × Obj)) (xe : Value → Shared → Prop), Takes (X.tr pn xe) W → PassesOwn (model X.prog X.w) X.A X.env xe → DB (X.tr pn xe) W body mb)
    (hs : X.stack = X.env :: X.outer := by rfl) (hf : X.env.frame = some X.env.locals := by rfl) (hi : X.N[i]? = some n := by rfl) (hln : X.env.kindOf n = some .local := by rfl) (hg : Gl X cn := by rfl) (hdb : (cn == ("__debug__" : Str)) = false := by decide)
    (hd : (n == ("__debug__" : Str)) = false := by decide) (hcd : (n == ("__classdict__" : Str)) = false := by decide) (hv : Vis X.env.scope n := by exact Or.inl rfl) (hab : attributeBase (.Name n q4) fl X.env (eval (.Name n q4) X.env) = eval (.Name n q4) X.env := by rfl) :
    DS X W (.Try body [.ExceptHandler (some (.Name cn np)) (some n) [.Return (some (.List [.Constant (.str w) j q1, .Attribute (.Name n q4) fl q2] q3)) q5] pos'] [] [] pos) (mTryL i cs cn w fl mb) := by
  refine PS.imp (ps_try_as (i := i) (tb := fun W => tSD X.K W mb) (ts := fun a cls d => fun D σ H => (tLst (tCons (tC (.str w)) (tCons (tBy1 X.K cn fl a cls d (tVar i)) tNil))) σ H D.rt) hs hf hN hi hln ⟨hg, hdb, .inl T.glo⟩ tk hb (fun a oe cls d pn hz hfl => ?_)) fun D σ H ⟨Γ, S, δ, Dd, c, m, er⟩ => ?_
  · exact pss_one (ps_ret (pe_lst (pa_cons pe_str (pa_cons (T.by_ X rfl rfl hz hfl (pe_var hi hv hd hcd) hab) pa_nil))))
  · refine ⟨Γ, S, δ, _, c, m, ⟨er.nx, er.rt, er.bk, er.ct, fun Γ' S' H' δ' σ' x cls d e' c' rx q => ?_⟩⟩
    obtain ⟨hx, hlt, q⟩ := q
    obtain ⟨rc, rf⟩ := rx
    subst rc
    refine ⟨_, hm x.cls hx, fun hy a ha => ?_, fun hno => ?_⟩
    · have hxc : x.cls = cn := of_decide_eq_true hy
      rw [if_pos hxc] at q
      obtain ⟨dv, hfs, q⟩ := q
      rw [hfs] at rf
      obtain ⟨dd, gs, rfl, hG, v, gs', rfl, rv, rn⟩ := rf
      cases (show gs' = [] from rn)
      have hl : i < σ'.length := by
        rw [← c'.len]
        exact hlt
      refine ⟨.ref a, by rw [List.getElem?_set_self hl], rfl, by rw [hxc], dd, v, rfl, c'.rs.sub _ _ hG, ?_⟩
      refine ⟨by show 2 ≤ sizeLine; decide, fun p hp => ?_⟩
      have E2 := c'.rs.ext hp (.lst [.str w, v])
      exact er.rt _ _ _ (.lst [.str w, dv]) _ (e'.trans E2) (c'.rs.laid hp _) ⟨p, _, rfl, upd_same, .str w, [v], rfl, rfl, v, [], rfl, RV.mono E2 _ _ rv, rfl⟩ q
    · rw [if_neg (of_decide_eq_false hno)] at q
      exact er.ex Γ' S' H' δ' σ' x _ d e' c' ⟨rfl, rf⟩ q
end
end DL
/-! D layer, part 22: own facts of the head. -/
namespace DL
open PySem PySem.Spec PyProof.Rows L2 PySem.W
/-- the k-th statement of a class's body -/
def inCl (st : Stmt) (k : Nat) : Stmt := (match st with
  | .ClassDef _ _ _ b _ _ _ _ _ _ _ => b
  | _ => []).getD k (.Pass ⟨0, 0, 0, 0⟩)
abbrev FB := PySem.W.Frag → Bool
/-- what is observed: the hook's facts, and own ones -/
def obsX (n : Nat) (fa : List He.Fa) (fn : List He.DefD) (own : List FB) (g : Addr → Option Obj) : He.AlD × Bool :=
  (He.obsD fa fn (He.frG g (He.asD g n)), own.all fun f => f (He.frG g (He.asD g n)))
def SaysX (fa : List He.Fa) (fn : List He.DefD) (own : List FB) (K : PySem.W.Frag) : Prop := He.SaysD fa fn K ∧ own.all (fun f => f K) = true
def hookX (n : Nat) (fa : List He.Fa) (fn : List He.DefD) (own : List FB) : PySem.W.Hook where
  α := He.AlD × Bool
  obs := fun s => obsX n fa fn own s.heap.get?
  val := fun _ => (He.valD fn, true)
  says := fun _ h => ∃ K : PySem.W.Frag, K.In h ∧ SaysX fa fn own K
  of := fun _ _ e => ⟨_, He.frG_in, congrArg Prod.fst e, congrArg Prod.snd e⟩
  keeps := fun _ _ _ ⟨K, hK, c⟩ k => ⟨K, PySem.W.Frag.In.keeps hK k, c⟩
theorem obsX_eq {n : Nat} {fa : List He.Fa} {fn : List He.DefD} {own : List FB} {g : Addr → Option Obj} {s : Shared} (h : ∀ a, g a = s.heap.get? a) : obsX n fa fn own g = (hookX n fa fn own).obs s := by
  have e : g = s.heap.get? := funext h
  rw [e]
  rfl
theorem SaysX.own {fa : List He.Fa} {fn : List He.DefD} {own : List FB} {K : PySem.W.Frag} (c : SaysX fa fn own K) (i : Nat) {f : FB} (h : own[i]? = some f := by rfl) : f K = true :=
  List.all_eq_true.mp c.2 f (List.mem_of_getElem? h)
/-! ### an exception's class with one field -/
def clsShape (K : PySem.W.Frag) (C : Addr) (maker : String) (tl : List Value → Bool) : Bool :=
  match K.lookup C with
  | some o =>
    (match o.cls, o.data, o.slots.toList with
    | .type ty, .cls d, [_, _, _, _, some (.builtin b), _] =>
      (match d.mro with
      | .ref C2 :: rest => decide (ty = "type") && (decide (C2 = C) && (decide (b = maker) && (decide (d.hasDel = false) && (decide (d.hasDict = true) && tl rest))))
      | _ => false)
    | _, _, _ => false)
  | none => false
theorem clsShape_of {K : PySem.W.Frag} {C : Addr} {maker : String} {tl : List Value → Bool} (h : clsShape K C maker tl = true) :
    ∃ nm q N bs bm sn sub ab col dd k0 k1 k2 k3 k5, K.lookup C = some (excClassObj nm q C N bs bm true sn sub ab col dd k0 k1 k2 k3 k5 maker) ∧ tl bm = true := by
  unfold clsShape at h
  cases ho : K.lookup C with
  | none =>
    rw [ho] at h
    cases h
  | some o =>
    rw [ho] at h
    obtain ⟨oc, od, dt, sl⟩ := o
    obtain ⟨sl⟩ := sl
    cases oc with
    | type ty =>
      cases dt with
      | cls d =>
        obtain ⟨nm, bs, mro, ns, qn, hdc, sn, sub, ab, col, del⟩ := d
        match sl, h with
        | [k0, k1, k2, k3, some (.builtin b), k5], h =>
          match mro, h with
          | .ref C2 :: rest, h =>
            have h' : (decide (ty = "type") && (decide (C2 = C) && (decide (b = maker) && (decide (del = false) && (decide (hdc = true) && tl rest))))) = true := h
            simp only [Bool.and_eq_true, decide_eq_true_eq] at h'
            obtain ⟨rfl, rfl, rfl, rfl, rfl, ht⟩ := h'
            exact ⟨nm, qn, ns, bs, rest, sn, sub, ab, col, od, k0, k1, k2, k3, k5, rfl, ht⟩
      | _ => cases h
    | _ => cases h
def isO (a b : Option (Option Value)) : Bool := decide (a = b)
/-- the class cn has a maker that keeps fl -/
def excB (cn fl : Str) : FB := fun K =>
  clsShape K (He.ga K cn) "ValueError.__new__" HandSPX.refsVE &&
  (isO (findIn K (.ref (He.ga K cn)) "__setattr__") (some (some (.builtin "object.__setattr__"))) &&
  (isO (findIn K (.ref (He.ga K cn)) "__getattribute__") (some (some (.builtin "BaseException.__getattribute__"))) &&
  (isO (findIn K (.ref (He.ga K cn)) "__getattr__") (some none) &&
  (isO (findIn K (.ref (He.ga K cn)) fl) (some none) &&
  (isO (findIn K (.ref (He.ga K cn)) "__init__") (some (some (.ref (He.ma K (He.ga K cn) "__init__")))) &&
  (decide (typeIn K (.ref (He.ma K (He.ga K cn) "__init__")) = some (.type "function")) &&
  (keepIn K (.ref (He.ga K cn)) &&
  (decide (subIn K (.ref (He.ga K cn)) (.type "BaseException") = some true) &&
  (decide (typeIn K (.ref (He.ga K cn)) = some (.type "type")) &&
  (hasDictIn K (He.ga K cn) &&
  decide (exmOne K (.ref (He.ga K cn)) (.ref (He.ga K cn)) = some true)))))))))))
def exmB (c d : Str) (b : Bool) : FB := fun K => decide (exmOne K (.ref (He.ga K c)) (.ref (He.ga K d)) = some b)
end DL
namespace LowX_line
open PySem PySem.W PySem.Calls PyProof.Rows PySem.HandSPX
/-! ### the text of __init__ -/
def iA (p1 p2 : Pos) : Arguments := { posonlyargs := [], args := [{ arg := "self", annotation := none, pos := p1 }, { arg := "line", annotation := none, pos := p2 }], vararg := none, kwonlyargs := [], kw_defaults := [], kwarg := none, defaults := [] }
def iB (q1 q2 q3 q4 : Pos) : List Stmt := [.Assign [.Attribute (.Name "self" q1) "line" q2] (.Name "line" q3) q4]
def iS : Scope := { kind := .function, names := [(PySem.Str.ofString "self", .local), (PySem.Str.ofString "line", .local)], isGenerator := false, isCoroutine := false, more := [] }
/-- what the written part says of Low, at C, and of its __init__, at fI -/
structure LowTxt (K : Frag) (mg : Str → Option Value) (cn : Str) (C fI : Addr) : Prop where
  gC : mg cn = some (.ref C)
  cls : ∃ nm q N bs bm sn sub ab col dd k0 k1 k2 k3 k5, K.lookup C = some (excClassObj nm q C N bs bm true sn sub ab col dd k0 k1 k2 k3 k5 "ValueError.__new__") ∧ refsVE bm = true
  sa : findIn K (.ref C) "__setattr__" = some (some (.builtin "object.__setattr__"))
  ga : findIn K (.ref C) "__getattribute__" = some (some (.builtin "BaseException.__getattribute__"))
  gg : findIn K (.ref C) "__getattr__" = some none
  noN : findIn K (.ref C) "line" = some none
  iC : findIn K (.ref C) "__init__" = some (some (.ref fI))
  tC : typeIn K (.ref fI) = some (.type "function")
  kC : keepIn K (.ref C) = true
  exC : subIn K (.ref C) (.type "BaseException") = some true
  tyC : typeIn K (.ref C) = some (.type "type")
  hdC : hasDictIn K C = true
  te : exmOne K (.ref C) (.ref C) = some true
  fn : ∃ (oc : Value) (od : Option Addr) (kV doc pm : Value) (an : Option Addr) (cdv ct : Value) (osl : Array (Option Value)) (p1 p2 q1 q2 q3 q4 : Pos),
    K.lookup fI = some ⟨oc, od, .func (fnOf "__init__" (cn ++ ".__init__") (iA p1 p2) (iB q1 q2 q3 q4) iS .none kV doc pm an cdv ct), osl⟩ ∧ codeIn K cdv (cn ++ ".__init__") = true
theorem one_size (v : Value) : [v].length ≤ sizeLine := by
  rw [sizeLine_eq]
  exact (by decide : 1 ≤ 16777216)
theorem kept_but {K : Frag} {h h' : Heap} {x : Addr} (X : K.In h) (hx : K.lookup x = none) (k : ∀ b o, b ≠ x → h.get? b = some o → h'.get? b = some o) : K.In h' := fun a o e =>
  k a o (fun z => by rw [z, hx] at e; cases e) (X a o e)
theorem ldC {M : Model} {s : Shared} {name : Str} {scope : Scope} {L a : Addr} {cd : Value} {m : Str → Option Value} {x : Str} {pos : Pos} {v : Value} {Q : Value → Shared → Prop} {A : Around} {E : Value → Shared → Prop} (hn : s.heap.Ns L m) (hv : m x = some v) (h : Q v s)
    (hk : scope.kind = .function := by rfl) (hl : (envOfC name scope L a cd).kindOf x = some .local := by rfl) (hd : (x == ("__debug__" : Str)) = false := by decide) :
    wpAny M A (eval (.Name x pos) (envOfC name scope L a cd)) Q E s := wpAny_Name (wpAny_loadName_local hk hl hn hv h) hd
/-- what __init__ leaves of a fresh exception at x -/
structure InitEnd (h h' : Heap) (x C dx t1 : Addr) (v : Value) : Prop where
  keep : ∀ b o, b ≠ x → h.get? b = some o → h'.get? b = some o
  obj : h'.get? x = some { cls := .ref C, dict := some dx, data := .fields #[.ref t1, .none, .none, .none, .bool false, .none] }
  dbig : h.objs.size ≤ dx
  dne : dx ≠ x
  ns : h'.Ns1 dx (fun y => if y = "line" then some v else none)
/-- a made Low -/
structure OwnMade (h h' : Heap) (e C d : Addr) (v : Value) : Prop where
  keep : ∀ b o, h.get? b = some o → h'.get? b = some o
  new : h.objs.size ≤ e
  obj : ∃ oe vs, h'.get? e = some oe ∧ oe.cls = .ref C ∧ oe.dict = some d ∧ oe.data = .fields vs ∧ vs[1]? = some .none
  dbig : h.objs.size ≤ d
  dne : d ≠ e
  ns : h'.Ns1 d (fun y => if y = "line" then some v else none)
section
variable {prog : Program} {w : World} {A : Around} {E : Value → Shared → Prop} {R : Result → Shared → Prop} {s : Shared} {K : Frag} {mg : Str → Option Value} {cn : Str} {C fI : Addr}
theorem low_init (T : LowTxt K mg cn C fI) {x t0 : Addr} {v : Value} (X : K.In s.heap) (hlim : s.heap.NoLimit) (hx : s.heap.get? x = some (excO C t0)) (hnx : K.lookup x = none) (hroom : A.depth < recursionLimit)
    (hq : ∀ h' tk dx, InitEnd s.heap h' x C dx t0 v → R (.ok (.ret .none)) { s with heap := h', toks := tk }) :
    codeAny (model prog w) A (.call (.ref fI) ⟨[.ref x, v], []⟩) R s := by
  obtain ⟨oc, od, kV, doc, pm, an, cdv, ct, osl, p1, p2, q1, q2, q3, q4, ho, hcd⟩ := T.fn
  obtain ⟨nm, q, N, bs, bm, sn, sub, ab, col, dd, k0, k1, k2, k3, k5, hC, hbm⟩ := T.cls
  have hcl : clsIn K C = some { name := nm, bases := bs, mro := .ref C :: bm, ns := N, qualname := q, hasDict := true, slotNames := sn, subclasses := sub, abstract := ab, collection := col, hasDel := false } := by unfold clsIn; rw [hC] <;> rfl
  refine Att.call_fn (binds := [("self", .ref x), ("line", v)]) X hlim ho hcd hroom (BindsTo.of_eq (by first | rfl | with_unfolding_all rfl)) (by first | rfl | decide | with_unfolding_all rfl) (fun s₁ IC => ?_) rfl rfl rfl
  obtain ⟨h₁, tk₁, rfl⟩ := IC.toInCall.same
  have k : ∀ b o, s.heap.get? b = some o → h₁.get? b = some o := IC.toInCall.keep
  have hn := IC.toInCall.ns
  have hxL : s.heap.objs.size ≠ x := Nat.ne_of_gt (Heap.lt_size hx)
  have X₁ : K.In h₁ := X.keeps k
  have hx₁ := k _ _ hx
  -- self.by = by
  show wpAny _ _ (execs _ _) _ _ _
  refine wpAny_execs_cons (plainObj_wpAny_Assign_Attribute ?_)
  refine ldC (v := v) hn (by first | rfl | with_unfolding_all rfl | kernel_rfl) (ldC (v := .ref x) hn (by first | rfl | with_unfolding_all rfl | kernel_rfl) ?_)
  refine set_plain X₁ (ox := excO C t0) (od := none) ⟨hx₁, rfl, rfl, trivial⟩ T.sa ?_
  refine exc_osa X₁ hx₁ hcl (show refsVE (.ref C :: bm) = true from hbm) rfl T.noN (fun h₃ tk₃ dx k₃ dn dne hx₃ hn₃ => ?_)
  show wpAny _ _ (execs _ _) _ _ _
  have z : s.heap.objs.size < h₁.objs.size := hn.lt
  exact wpAny_execs_nil (hq h₃ tk₃ dx ⟨fun b o hb e => k₃ b o hb (k b o e), hx₃, Nat.le_of_lt (Nat.lt_of_lt_of_le z dn), dne, hn₃⟩)
theorem low_made (T : LowTxt K mg cn C fI) {v : Value} (X : K.In s.heap) (hlim : s.heap.NoLimit) (hroom : A.depth + 1 < recursionLimit)
    (hq : ∀ h' tk e d, OwnMade s.heap h' e C d v → R (.ok (.ret (.ref e))) { s with heap := h', toks := tk }) :
    codeAny (model prog w) A (.call (.ref C) ⟨[v], []⟩) R s := by
  obtain ⟨nm, q, N, bs, bm, sn, sub, ab, col, dd, k0, k1, k2, k3, k5, hC, hbm⟩ := T.cls
  obtain ⟨hp, g, dr, tk, os⟩ := s
  have k : ∀ b o, hp.get? b = some o → ((hp.push (kdv_tup [v])).push (excO C hp.objs.size)).get? b = some o := fun b o e => Heap.get?_push_of_some _ (Heap.get?_push_of_some _ e)
  have hget : ((hp.push (kdv_tup [v])).push (excO C hp.objs.size)).get? (hp.objs.size + 1) = some (excO C hp.objs.size) := by heap_get
  have hnx : K.lookup (hp.objs.size + 1) = none := by
    cases e : K.lookup (hp.objs.size + 1) with
    | none => rfl
    | some o =>
      have z : hp.get? (hp.objs.size + 1) = some o := X _ _ e
      exact absurd (Nat.lt_of_succ_lt (Heap.lt_size z)) (Nat.lt_irrefl _)
  refine call_own F.excBase_ValueError (fun X => refsVE_contains X bm hbm) (X _ _ hC) (looks_findIn X T.iC) (fun self => bind_fn X self T.tC) (one_size v) ?_
  refine low_init (s := ⟨(hp.push (kdv_tup [v])).push (excO C hp.objs.size), g, dr, tk, os⟩) T (X.keeps k) (hlim.keeps k) hget hnx ?_ fun h' tk' dx ⟨k', hx, dn, dne, hns⟩ => ?_
  · show A.depth + 1 < recursionLimit
    exact hroom
  · have old : ∀ b o, hp.get? b = some o → h'.get? b = some o := fun b o e => k' b o (Nat.ne_of_lt (Nat.lt_succ_of_lt (Heap.lt_size e))) (k b o e)
    have z : hp.objs.size + 1 + 1 ≤ dx := by
      first
        | (simpa only [Heap.size_push] using dn)
        | exact dn
        | (have q := dn; rw [Heap.size_push, Heap.size_push] at q; exact q)
    exact ⟨rfl, hq h' tk' (hp.objs.size + 1) dx ⟨old, Nat.le_succ _, ⟨_, _, hx, rfl, rfl, rfl, rfl⟩, Nat.le_trans (Nat.le_trans (Nat.le_succ _) (Nat.le_succ _)) z, dne, hns⟩⟩
end
open PySem PySem.Spec PyProof.Rows L2
theorem relO_low {v : V} {v' : Value} (r : RelV v v') (f : Str) : RelO (List.lookup f [(("line" : Str), v)]) (if f = "line" then some v' else none) := by
  by_cases hw : f = "line"
  · subst hw
    rw [if_pos rfl]
    have q : List.lookup ("line" : Str) [(("line" : Str), v)] = some v := by simp [List.lookup]
    rw [q]
    exact r
  · rw [if_neg hw]
    have qw : (f == ("line" : Str)) = false := by simpa using hw
    have q2 : List.lookup f [(("line" : Str), v)] = none := by simp [List.lookup, qw]
    rw [q2]
    trivial
section
variable {X : Cx} {cn : Str} {C fI : Addr}
/-- Low(e) -/
def tMkLow (C : Addr) (ta : TA) : L2.St → Hp → XK → Prop := fun σ H Q => ta σ H fun vs H1 => ∃ v, vs = [v] ∧ ∀ d, H1 d = none → Q (.ref C) (some d) (upd H1 d (.xd [(("line" : Str), v)]))
theorem pmk_low {a : Expr} {ta : TA} {p pos : Pos} {k : Nat} (T : LowTxt X.K X.mg cn C fI) (hr : Room k X.A) (ha : PA X [a] ta) (hg : Gl X cn := by rfl) (hdb : (cn == ("__debug__" : Str)) = false := by decide)
    (he : starEach (a :: []) X.env = (false, eval a X.env) :: starEach [] X.env := by rfl) (hpl : (backTo pos (starEach [] X.env)).any (·.1) = false := by rfl) :
    PMk X (.Call (.Name cn p) [a] [] pos) (tMkLow C ta) := by
  intro pins s σ H Q I h
  refine wpAny_Call_Name_kw (ld_glob I hg T.gC ?_ hdb)
  refine PySem.W.callWith_K (h₀ := X.base) I.ok.mod.kin T.kC (thn (ha.run pos pins s σ H _ I h) fun us s1 hh => ?_) he hpl
  obtain ⟨vs, H1, I1, r1, v, ev, q1⟩ := hh
  subst ev
  refine ⟨I1.kIn, ?_⟩
  cases r1 with
  | cons rv rn =>
    rename_i v' us'
    cases rn
    show wpAny _ _ (call (.ref C) [v']) _ _ _
    have hlim := I1.nolimit
    obtain ⟨hp, g, dr, tk, os⟩ := s1
    refine wpAny_call (low_made T I1.kIn hlim (by have := hr.dp; omega) fun h' tk' e d M => ?_)
    show MkP X pins σ Q (.ref e) ⟨h', g, dr, tk', os⟩
    obtain ⟨oe, fv, hoe, hc, hd, hdat, h1⟩ := M.obj
    have hns := M.ns
    obtain ⟨G', g1, g2⟩ := restrict h' fun b => decide (b ≠ e)
    have gk : ∀ b, b ≠ e → G'.get? b = h'.get? b := fun b hb => g1 b (decide_eq_true hb)
    have ge : G'.get? e = none := g2 e (by simp)
    have old : ∀ b o, hp.get? b = some o → G'.get? b = some o := fun b o q => (gk b (Nat.ne_of_lt (Nat.lt_of_lt_of_le (Heap.lt_size q) M.new))).trans (M.keep b o q)
    have ob : ObjOk X.prog X.w (upd H1 d (.xd [(("line" : Str), v)])) G' d (.xd [(("line" : Str), v)]) :=
      ⟨_, hns.at (fun o q => (gk d M.dne).trans q), fun f => relO_low rv f⟩
    have J : Inv X pins σ (upd H1 d (.xd [(("line" : Str), v)])) ⟨G', g, dr, tk', os⟩ := I1.laid (t' := tk') old M.dbig ob
    refine ⟨e, oe, fv, ⟨G', g, dr, tk', os⟩, _, .ref C, some d, rfl, J, fun b o q => ?_, ge, hoe, ⟨hc, hd⟩, hdat, h1, ?_, rfl, I1.bare, raises_own T.exC T.tyC, q1 d (I1.hok.fresh M.dbig)⟩
    · by_cases hb : b = e
      · have q' : G'.get? b = some o := q
        rw [hb, ge] at q'; cases q'
      · exact (gk b hb).symm.trans q
    · rw [upd_ne (Ne.symm M.dne)]
      exact I1.hok.fresh M.new
/-- raise Low(e) -/
def tRaiseLow (C : Addr) (W : WX) (ta : TA) : TS := fun _ σ H => tMkLow C ta σ H fun cls d H' => W cls d σ H'
theorem ps_raiseLow {a : Expr} {ta : TA} {W : WX} {p pos pos2 : Pos} {k : Nat} (hc : X.calm = true) (T : LowTxt X.K X.mg cn C fI) (hr : Room k X.A) (tk : Takes X W) (ha : PA X [a] ta) (hg : Gl X cn := by rfl) (hdb : (cn == ("__debug__" : Str)) = false := by decide)
    (he : starEach (a :: []) X.env = (false, eval a X.env) :: starEach [] X.env := by rfl) (hpl : (backTo pos (starEach [] X.env)).any (·.1) = false := by rfl) :
    PS X (.Raise (some (.Call (.Name cn p) [a] [] pos)) none pos2) (tRaiseLow C W ta) := ps_raise hc tk (pmk_low T hr ha hg hdb he hpl)
/-- low.by, low the exception that the suite holds (at a; its class cls, its dict d) -/
def tByLow (C : Addr) (a : Addr) (cls : Value) (d : Option Addr) (te : TE) : TE := fun σ H Q => te σ H fun x H1 => x = .ref a ∧ cls = .ref C ∧ ∃ (dd : Addr) (v : V), d = some dd ∧ H1 dd = some (.xd [(("line" : Str), v)]) ∧ Q v H1
theorem pe_byLow {a : Addr} {oe : Obj} {cls : Value} {d : Option Addr} {pn : List (Addr × Obj)} {e : Expr} {te : TE} {pos : Pos} (T : LowTxt X.K X.mg cn C fI) (hz : Zc cls d oe) (hf : ∃ vs, oe.data = .fields vs) (he : PE (X.suite a ((a, oe) :: pn)) e te)
    (hb : attributeBase e "line" X.env (eval e X.env) = eval e X.env := by rfl) :
    PE (X.suite a ((a, oe) :: pn)) (.Attribute e "line" pos) (tByLow C a cls d te) := by
  refine ⟨fun pins s σ H Q I h => ?_⟩
  refine attr_of hb (thn (he.run pins s σ H _ I h) fun u s1 hh => ?_)
  obtain ⟨x, H1, I1, rx, ex, ec, dd, v, ed, ea, q⟩ := hh
  subst ex
  obtain rfl : u = Value.ref a := rx
  subst ec
  subst ed
  obtain ⟨ha, _⟩ := I1.pin (a, oe) (List.mem_append_left _ List.mem_cons_self)
  obtain ⟨vs, hd⟩ := hf
  have hx : ObjOk X.prog X.w H1 s1.heap dd (.xd [(("line" : Str), v)]) := I1.hok dd _ ea
  obtain ⟨mA, hns, hr⟩ := hx
  obtain ⟨od, ho, hl⟩ := lookIn_ns hns
  have l : List.lookup ("line" : Str) [(("line" : Str), v)] = some v := by simp [List.lookup]
  obtain ⟨u, hu, ru⟩ := RelO.some_of (v := v) (o := mA "line") (by rw [← l]; exact hr "line")
  have J : PySem.W.InstAt s1.heap a oe C (some od) := ⟨ha, hz.1, by unfold PySem.W.notCls; rw [hd] <;> rfl, by rw [hz.2]; exact ho⟩
  exact HandSPX.exc_get I1.kIn J T.ga T.gg T.exC (PySem.W.findObj_own T.hdC T.noN rfl (by rw [hl, hu])) (handed_of ru) ⟨v, H1, I1.tok _, ru, q⟩
end
open PySem.W
/-- the class's facts, read off the head -/
theorem low_of {K : Frag} {mg : Str → Option Value} {cn : Str} {fd : FuncData} {params : Arguments} {body : List Stmt} {scope : Scope} (hg : mg cn = some (.ref (He.ga K cn))) (h : DL.excB cn "line" K = true)
    (F : FunD K "__init__" (cn ++ ".__init__") params body scope [] [] (He.ma K (He.ga K cn) "__init__") fd) (hp : ∃ p1 p2, params = iA p1 p2) (hb : ∃ q1 q2 q3 q4, body = iB q1 q2 q3 q4) (hs : scope = iS) : LowTxt K mg cn (He.ga K cn) (He.ma K (He.ga K cn) "__init__") := by
  unfold DL.excB at h
  simp only [Bool.and_eq_true, decide_eq_true_eq, DL.isO] at h
  obtain ⟨h1, h2, h3, h4, h5, h6, h7, h8, h9, h10, h11, h12⟩ := h
  obtain ⟨p1, p2, rfl⟩ := hp
  obtain ⟨q1, q2, q3, q4, rfl⟩ := hb
  subst hs
  obtain ⟨oc, od, dV, kV, doc, pm, an, cdv, ct, osl, rfl, lk, hc, hd, _⟩ := F.ex
  rcases hd with ⟨_, rfl⟩ | ⟨hne, _⟩
  · exact ⟨hg, DL.clsShape_of h1, h2, h3, h4, h5, h6, h7, h8, h9, h10, h11, h12, oc, od, kV, doc, pm, an, cdv, ct, osl, p1, p2, q1, q2, q3, q4, lk, hc⟩
  · exact absurd rfl hne
theorem excF {K : Frag} {mg : Str → Option Value} {cn : Str} {fI : Addr} (T : LowTxt K mg cn (He.ga K cn) fI) : DL.ExcF K mg cn "line" where
  glo := T.gC
  mks := fun X h1 h2 => by
    subst h1 h2
    exact fun hr ha hg hdb he hpl => pmk_low T hr ha hg hdb he hpl
  by_ := fun X h1 h2 => by
    subst h1 h2
    exact fun hz hf he hb => pe_byLow T hz hf he hb
end LowX_line
/-! D layer, part 23: bodies of try; what lets nothing out; strings. -/
namespace DL
open PySem PySem.Spec PyProof.Rows L2 PySem.W
theorem XC.tr {X : Cx} {k : Nat} (c : XC X k) {pn : List (Addr × Obj)} {xe : Value → Shared → Prop} (h : PassesOwn (model X.prog X.w) X.A X.env xe) : XC (X.tr pn xe) k := ⟨c.room, c.guards, c.calm, h⟩
def mNoEx (m : MS) : MS := fun D δ S => m { D with ex := fun _ _ _ => False } δ S
theorem d_nox {X : Cx} {W : WX} {st : Stmt} {m : MS} (h : DS X noW st m) : DS X W st (mNoEx m) :=
  PS.imp h fun D σ H ⟨Γ, S, δ, Dd, c, m', er⟩ => ⟨Γ, S, δ, _, c, m', ⟨er.nx, er.rt, er.bk, er.ct, fun _ _ _ _ _ _ _ _ _ _ _ q => q.elim⟩⟩
theorem takesN {X : Cx} : Takes X noW := fun _ _ x => by
  obtain ⟨_, _, _, _, _, _, _, _, _, _, _, _, _, _, _, _, z⟩ := x
  exact z.elim
/-! ### signs, parts of texts -/
/-- z[i] -/
def fIxS : G2 := fun x y S Q => ∃ (z : Str) (i : Int) (c : Nat), x = .str z ∧ y = .int i ∧ z.length ≤ 16777216 ∧ atI z.cps.toList i = some c ∧ Q (.str ⟨#[c]⟩) S
/-- z[lo:hi] -/
def fSlS : GS := fun x lo hi S Q => ∃ z, x = .str z ∧ z.length ≤ 16777216 ∧ Q (.str (cutS z lo hi)) S
/-- in a list of data -/
def fInL (q : Bool → Bool) : G2 := fun x y S Q => ∃ ds p ps, y = .lst ds ∧ toP x = some p ∧ toPs ds = some ps ∧ SeqAt.shaped p = true ∧ p.depth ≤ 60 ∧ SeqAt.shaped (.list ps) = true ∧ Q (.bl (q (ps.any fun z => PyData.eqv z p))) S
section
variable {X : Cx} {W : WX} {a b : Expr} {ma mb : ME} {pos p2 : Pos} {lo hi : Option Expr} {ml mh : MP}
theorem ixd_str : IxR X (tO2 X.K fIxS) := by
  intro value slice pins s σ H x y v u Q I rx ry ⟨Γ, S, dx, dy, Qd, R, r1, r2, ⟨z, i, c, h1, h2, h3, h4, h5⟩, kq⟩ hs
  subst h1 h2
  exact ix_str value slice pins s σ H x y v u Q I rx ry ⟨z, i, c, r1, r2, line_le h3, h4, kq.here (d := .str _) R rfl h5⟩ hs
theorem d_ixS (ha : DE X W a ma) (hb : DE X W b mb) (hs : PlainIx b := by exact fun _ _ => rfl) : DE X W (.Subscript a b pos) (mOp fIxS ma mb) :=
  PE.imp (pe_ix ixd_str ha hb hs) fun σ H Q ⟨Γ, S, δ, Qd, Ed, c, m, kq, ke⟩ =>
    ⟨Γ, S, δ, _, Ed, c, m, fun Γ1 S1 H1 d1 v1 e1 R1 r1 q1 => ⟨Γ1, S1, δ, _, Ed, c.mk' R1 e1, q1, fun Γ2 S2 H2 d2 v2 e2 R2 r2 q2 =>
      ⟨Γ2, S2, d1, d2, Qd, R2, RV.mono e2 _ _ r1, r2, q2, kq.mono (e1.trans e2)⟩, ke.mono e1⟩, ke⟩
theorem sld_str : L2.SlR X (tSlD X.K fSlS) := by
  intro pins s σ H x v vl vu lo hi sl Q I rx hs pl pu ⟨Γ, S, dx, Qd, R, r1, ⟨z, h1, h2, h3⟩, kq⟩
  subst h1
  exact sl_str pins s σ H x v vl vu lo hi sl Q I rx hs pl pu ⟨z, r1, line_le h2, kq.here (d := .str _) R rfl h3⟩
theorem inL_run {q : Bool → Bool} {pins : List (Addr × Obj)} {s : Shared} {σ : L2.St} {H : Hp} {x y : V} {v u : Value} {Q : VK} (hu : X.A.units + 64 < cLine) (I : Inv X pins σ H s) (rx : RelV x v) (ry : RelV y u) (h : tO2 X.K (fInL q) x y H Q) :
    ∃ (ps : List PyData) (p : PyData) (as bs : List Addr), Reads s.heap u (.list ps) as ∧ Reads s.heap v p bs ∧ PyData.canLayAll0 ps = true ∧ p.canLay0 = true ∧ X.A.units + 1 + min (PyData.depthAll ps) p.depth < cLine ∧ Q (.bl (q (ps.any fun z => PyData.eqv z p))) H := by
  obtain ⟨Γ, S, dx, dy, Qd, R, r1, r2, ⟨ds, p, ps, h0, h1, h2, h3, h5, h4, hq⟩, kq⟩ := h
  subst h0
  obtain ⟨as, k1⟩ := reads_of I R dx p x v r1 h1 rx
  obtain ⟨bs, k2⟩ := reads_of I R (.lst ds) (.list ps) y u r2 (by simp only [toP, h2]) ry
  exact ⟨ps, p, bs, as, k2, k1, SeqAt.canLay_of_shaped h4, SeqAt.canLay_of_shaped h3, by
    have := Nat.min_le_right (PyData.depthAll ps) p.depth
    omega, kq.here (d := .bl _) R rfl hq⟩
theorem opd_inL (hu : X.A.units + 64 < cLine) : OpD X (compareOp .In) (fInL fun b => b) := by
  intro pins s σ H x y v u Q I rx ry h
  obtain ⟨ps, p, as, bs, k2, k1, h1, h2, h3, hq⟩ := inL_run hu I rx ry h
  exact SeqAt.in_list_reads k2 k1 h1 h2 h3 ⟨.bl _, H, I, rfl, hq⟩
theorem opd_notInL (hu : X.A.units + 64 < cLine) : OpD X (compareOp .NotIn) (fInL fun b => !b) := by
  intro pins s σ H x y v u Q I rx ry h
  obtain ⟨ps, p, as, bs, k2, k1, h1, h2, h3, hq⟩ := inL_run hu I rx ry h
  exact SeqAt.notIn_list_reads k2 k1 h1 h2 h3 ⟨.bl _, H, I, rfl, hq⟩
theorem d_slS (ha : DE X W a ma) (hl : DP X W lo ml) (hh : DP X W hi mh) : DE X W (.Subscript a (.Slice lo hi none p2) pos) (mSl fSlS ma ml mh) :=
  PE.imp (pe_slice sld_str ha hl hh) fun σ H Q ⟨Γ, S, δ, Qd, Ed, c, m, kq, ke⟩ =>
    ⟨Γ, S, δ, _, Ed, c, m, fun Γ1 S1 H1 d1 v1 e1 R1 r1 q1 => ⟨Γ1, S1, δ, _, Ed, c.mk' R1 e1, q1, fun Γ2 S2 H2 d2 v2 e2 R2 r2 q2 =>
      ⟨Γ2, S2, δ, _, Ed, c.mk' R2 (e1.trans e2), q2, fun Γ3 S3 H3 d3 v3 e3 R3 r3 q3 => by
        cases (show d2 = v2 from r2)
        cases (show d3 = v3 from r3)
        exact ⟨Γ3, S3, d1, Qd, R3, RV.mono (e2.trans e3) _ _ r1, q3, kq.mono ((e1.trans e2).trans e3)⟩, ke.mono (e1.trans e2)⟩, ke.mono e1⟩, ke⟩
/-- {a text: a text}, never looked into -/
def mDcx : ME := fun _ S Q _ => Q .dcx S
theorem d_dcx {k w : Str} {i j : _} {q1 q2 : Pos} : DE X W (.Dict [some (.Constant (.str k) i q1)] [.Constant (.str w) j q2] pos) mDcx :=
  PE.imp (pe_disp (pps_cons pe_str pe_str pps_nil) rfl rfl (by simp) (Nat.le_of_ble_eq_true rfl)) fun σ H Q ⟨Γ, S, δ, Qd, Ed, c, m, kq, ke⟩ => fun p hp => by
    refine ⟨upd_same, [(Sum.inr k, .str w)], rfl, Nat.le_of_ble_eq_true rfl, ?_⟩
    have e : ∀ o, upd (upd H p (.dK [])) p o = upd H p o := fun o => upd_upd
    rw [e]
    exact kq.new (d := .dcx) c.rs hp ⟨p, _, rfl, upd_same⟩ m
end
theorem mDcx_e {δ : DEnv} {S : Store} {Q : MK DV} {E : MX} : mDcx δ S Q E = Q .dcx S := id rfl
end DL
namespace LB
open PySem PySem.Spec PyProof.Rows L2 DL
noncomputable def r__law_deck_1 : MS := shut ((mRet (mLstO (mCons (mVar 1) (mCons (mC (.int 0)) (mCons (mLcO (iS (mVar 1)) (.nm 2) mYes (mOp fMul (mVar 2) (mCall gInt (mCons (mOp fGe (mVar 2) (mOp fPow (mC (.int 10)) (mC (.int 18)))) mNil))) [2]) mNil))))))
theorem r__law_deck_1_e : r__law_deck_1 = (mRet (mLstO (mCons (mVar 1) (mCons (mC (.int 0)) (mCons (mLcO (iS (mVar 1)) (.nm 2) mYes (mOp fMul (mVar 2) (mCall gInt (mCons (mOp fGe (mVar 2) (mOp fPow (mC (.int 10)) (mC (.int 18)))) mNil))) [2]) mNil))))) := shut_eq _
noncomputable def b__law_deck : MS := shut ((mSeq (mSet 1 (mOp fAdd (mCall gList (mCons (mSl fSl (mVar 0) mPN (mPS (mC (.int 63)))) mNil)) (mOp fMul (mLst (mCons (mC (.int 0)) mNil)) (mCall gInt (mCons (mOp (fEq fun b => b) (mCall gLen (mCons (mVar 0) mNil)) (mC (.int 0))) mNil)))))
  r__law_deck_1))
theorem b__law_deck_e : b__law_deck = (mSeq (mSet 1 (mOp fAdd (mCall gList (mCons (mSl fSl (mVar 0) mPN (mPS (mC (.int 63)))) mNil)) (mOp fMul (mLst (mCons (mC (.int 0)) mNil)) (mCall gInt (mCons (mOp (fEq fun b => b) (mCall gLen (mCons (mVar 0) mNil)) (mC (.int 0))) mNil)))))
  r__law_deck_1) := shut_eq _
noncomputable def m__law_deck : GX := shut (mBody 3 b__law_deck)
theorem m__law_deck_e : m__law_deck = mBody 3 b__law_deck := shut_eq _
noncomputable def r__law_draw_1 : MS := shut ((mRet (mVar 6)))
theorem r__law_draw_1_e : r__law_draw_1 = (mRet (mVar 6)) := shut_eq _
noncomputable def r__law_draw_2 : MS := shut ((mSeq (mAsg (mOp fDiv (mOp fIx (mVar 4) (mVar 5)) (mVar 1)) (gSetL (mVar 4) (mVar 5)))
  r__law_draw_1))
theorem r__law_draw_2_e : r__law_draw_2 = (mSeq (mAsg (mOp fDiv (mOp fIx (mVar 4) (mVar 5)) (mVar 1)) (gSetL (mVar 4) (mVar 5)))
  r__law_draw_1) := shut_eq _
noncomputable def r__law_draw_3 : MS := shut ((mRet (mOp fMod (mOp fMod (mCall gInt (mCons (mOp fAdd (mOp fMul (mVar 8) (mC (.int 2147483399))) (mVar 7)) mNil)) (mC (.int 4611686018427387847))) (mVar 1))))
theorem r__law_draw_3_e : r__law_draw_3 = (mRet (mOp fMod (mOp fMod (mCall gInt (mCons (mOp fAdd (mOp fMul (mVar 8) (mC (.int 2147483399))) (mVar 7)) mNil)) (mC (.int 4611686018427387847))) (mVar 1))) := shut_eq _
noncomputable def r__law_draw_4 : MS := shut ((mSeq (mSet 8 (mOp fMod (mOp fPow (mOp fAdd (mOp fAdd (mVar 7) (mOp fMul (mC (.int 7919)) (mVar 3))) (mC (.int 13))) (mC (.int 3))) (mC (.int 2147483423))))
  r__law_draw_3))
theorem r__law_draw_4_e : r__law_draw_4 = (mSeq (mSet 8 (mOp fMod (mOp fPow (mOp fAdd (mOp fAdd (mVar 7) (mOp fMul (mC (.int 7919)) (mVar 3))) (mC (.int 13))) (mC (.int 3))) (mC (.int 2147483423))))
  r__law_draw_3) := shut_eq _
noncomputable def r__law_draw_5 : MS := shut ((mSeq (mSet 7 (mOp fMod (mOp fPow (mOp fAdd (mOp fAdd (mOp fMod (mCall gInt (mCons (mOp fIx (mVar 2) (mVar 5)) mNil)) (mC (.int 2147483543))) (mOp fMul (mC (.int 75979)) (mVar 3))) (mC (.int 4481))) (mC (.int 3))) (mC (.int 2147483497))))
  r__law_draw_4))
theorem r__law_draw_5_e : r__law_draw_5 = (mSeq (mSet 7 (mOp fMod (mOp fPow (mOp fAdd (mOp fAdd (mOp fMod (mCall gInt (mCons (mOp fIx (mVar 2) (mVar 5)) mNil)) (mC (.int 2147483543))) (mOp fMul (mC (.int 75979)) (mVar 3))) (mC (.int 4481))) (mC (.int 3))) (mC (.int 2147483497))))
  r__law_draw_4) := shut_eq _
noncomputable def r__law_draw_6 : MS := shut ((mSeq (mIfS (mT (mOp fGt (mOp fIx (mVar 4) (mVar 5)) (mC (.int 0)))) (mSeq (mSet 6 (mOp fMod (mCall gInt (mCons (mOp fIx (mVar 4) (mVar 5)) mNil)) (mVar 1)))
  r__law_draw_2) mNext)
  r__law_draw_5))
theorem r__law_draw_6_e : r__law_draw_6 = (mSeq (mIfS (mT (mOp fGt (mOp fIx (mVar 4) (mVar 5)) (mC (.int 0)))) (mSeq (mSet 6 (mOp fMod (mCall gInt (mCons (mOp fIx (mVar 4) (mVar 5)) mNil)) (mVar 1)))
  r__law_draw_2) mNext)
  r__law_draw_5) := shut_eq _
noncomputable def r__law_draw_7 : MS := shut ((mSeq (mAsg (mOp fAdd (mVar 3) (mC (.int 1))) (gSetL (mVar 0) (mC (.int 1))))
  r__law_draw_6))
theorem r__law_draw_7_e : r__law_draw_7 = (mSeq (mAsg (mOp fAdd (mVar 3) (mC (.int 1))) (gSetL (mVar 0) (mC (.int 1))))
  r__law_draw_6) := shut_eq _
noncomputable def r__law_draw_8 : MS := shut ((mSeq (mSet 5 (mOp fMod (mCall gInt (mCons (mVar 3) mNil)) (mCall gLen (mCons (mVar 2) mNil))))
  r__law_draw_7))
theorem r__law_draw_8_e : r__law_draw_8 = (mSeq (mSet 5 (mOp fMod (mCall gInt (mCons (mVar 3) mNil)) (mCall gLen (mCons (mVar 2) mNil))))
  r__law_draw_7) := shut_eq _
noncomputable def b__law_draw : MS := shut ((mSeq (mAsg (mVar 0) (gUnL [(.nm 2), (.nm 3), (.nm 4)]))
  r__law_draw_8))
theorem b__law_draw_e : b__law_draw = (mSeq (mAsg (mVar 0) (gUnL [(.nm 2), (.nm 3), (.nm 4)]))
  r__law_draw_8) := shut_eq _
noncomputable def m__law_draw : GX := shut (mBody 9 b__law_draw)
theorem m__law_draw_e : m__law_draw = mBody 9 b__law_draw := shut_eq _
noncomputable def b__law_one : MS := shut ((mRet (mOp fIx (mVar 1) (mCallF 2 m__law_draw (mCons (mVar 0) (mCons (mCall gLen (mCons (mVar 1) mNil)) mNil))))))
theorem b__law_one_e : b__law_one = (mRet (mOp fIx (mVar 1) (mCallF 2 m__law_draw (mCons (mVar 0) (mCons (mCall gLen (mCons (mVar 1) mNil)) mNil))))) := shut_eq _
noncomputable def m__law_one : GX := shut (mBody 2 b__law_one)
theorem m__law_one_e : m__law_one = mBody 2 b__law_one := shut_eq _
noncomputable def b__law_bag : MS := shut ((mRet (mCall gTuple (mCons (mLc (iR1 (mCons (mVar 1) mNil)) (.nm 3) mYes (mCallF 2 m__law_draw (mCons (mVar 0) (mCons (mOp fAdd (mVar 2) (mC (.int 1))) mNil))) [3]) mNil))))
theorem b__law_bag_e : b__law_bag = (mRet (mCall gTuple (mCons (mLc (iR1 (mCons (mVar 1) mNil)) (.nm 3) mYes (mCallF 2 m__law_draw (mCons (mVar 0) (mCons (mOp fAdd (mVar 2) (mC (.int 1))) mNil))) [3]) mNil))) := shut_eq _
noncomputable def m__law_bag : GX := shut (mBody 4 b__law_bag)
theorem m__law_bag_e : m__law_bag = mBody 4 b__law_bag := shut_eq _
noncomputable def r__law_side_1 : MS := shut ((mAsg (mOp fAdd (mOp fIx (mVar 3) (mVar 5)) (mCall gInt (mCons (mOp fLt (mOp fIx (mVar 3) (mVar 5)) (mC (.int 3))) mNil))) (gSetL (mVar 3) (mVar 5))))
theorem r__law_side_1_e : r__law_side_1 = (mAsg (mOp fAdd (mOp fIx (mVar 3) (mVar 5)) (mCall gInt (mCons (mOp fLt (mOp fIx (mVar 3) (mVar 5)) (mC (.int 3))) mNil))) (gSetL (mVar 3) (mVar 5))) := shut_eq _
noncomputable def f__law_side_1 : MS := shut ((mSeq (mSet 5 (mCallF 2 m__law_draw (mCons (mVar 0) (mCons (mVar 1) mNil))))
  r__law_side_1))
theorem f__law_side_1_e : f__law_side_1 = (mSeq (mSet 5 (mCallF 2 m__law_draw (mCons (mVar 0) (mCons (mVar 1) mNil))))
  r__law_side_1) := shut_eq _
noncomputable def r__law_side_2 : MS := shut ((mRet (mCall gTuple (mCons (mVar 3) mNil))))
theorem r__law_side_2_e : r__law_side_2 = (mRet (mCall gTuple (mCons (mVar 3) mNil))) := shut_eq _
noncomputable def r__law_side_3 : MS := shut ((mSeq (mFor (iR1 (mCons (mCallF 2 m__law_draw (mCons (mVar 0) (mCons (mOp fAdd (mVar 2) (mC (.int 1))) mNil))) mNil)) (gTg (.nm 4)) f__law_side_1)
  r__law_side_2))
theorem r__law_side_3_e : r__law_side_3 = (mSeq (mFor (iR1 (mCons (mCallF 2 m__law_draw (mCons (mVar 0) (mCons (mOp fAdd (mVar 2) (mC (.int 1))) mNil))) mNil)) (gTg (.nm 4)) f__law_side_1)
  r__law_side_2) := shut_eq _
noncomputable def b__law_side : MS := shut ((mSeq (mSet 3 (mOp fMulO (mLst (mCons (mC (.int 0)) mNil)) (mVar 1)))
  r__law_side_3))
theorem b__law_side_e : b__law_side = (mSeq (mSet 3 (mOp fMulO (mLst (mCons (mC (.int 0)) mNil)) (mVar 1)))
  r__law_side_3) := shut_eq _
noncomputable def m__law_side : GX := shut (mBody 6 b__law_side)
theorem m__law_side_e : m__law_side = mBody 6 b__law_side := shut_eq _
noncomputable def b__law_plus : MS := shut ((mRet (mCall gTuple (mCons (mLc (iZ (mCons (mVar 0) (mCons (mVar 1) mNil))) (.tp [(.nm 2), (.nm 3)]) mYes (mOp fAdd (mVar 2) (mVar 3)) [2, 3]) mNil))))
theorem b__law_plus_e : b__law_plus = (mRet (mCall gTuple (mCons (mLc (iZ (mCons (mVar 0) (mCons (mVar 1) mNil))) (.tp [(.nm 2), (.nm 3)]) mYes (mOp fAdd (mVar 2) (mVar 3)) [2, 3]) mNil))) := shut_eq _
noncomputable def m__law_plus : GX := shut (mBody 4 b__law_plus)
theorem m__law_plus_e : m__law_plus = mBody 4 b__law_plus := shut_eq _
noncomputable def r__law_trade_1 : MS := shut ((mRet (mIf (mT (mOp fLt (mVar 4) (mC (.int 2)))) (mTup (mCons (mCallF 2 m__law_plus (mCons (mVar 6) (mCons (mVar 5) mNil))) (mCons (mCallF 2 m__law_plus (mCons (mVar 7) (mCons (mVar 5) mNil))) mNil))) (mTup (mCons (mCallF 2 m__law_plus (mCons (mVar 6) (mCons (mVar 5) mNil))) (mCons (mVar 5) mNil))))))
theorem r__law_trade_1_e : r__law_trade_1 = (mRet (mIf (mT (mOp fLt (mVar 4) (mC (.int 2)))) (mTup (mCons (mCallF 2 m__law_plus (mCons (mVar 6) (mCons (mVar 5) mNil))) (mCons (mCallF 2 m__law_plus (mCons (mVar 7) (mCons (mVar 5) mNil))) mNil))) (mTup (mCons (mCallF 2 m__law_plus (mCons (mVar 6) (mCons (mVar 5) mNil))) (mCons (mVar 5) mNil))))) := shut_eq _
noncomputable def r__law_trade_2 : MS := shut ((mSeq (mPar2 6 7 (mCons (mCallF 3 m__law_side (mCons (mVar 0) (mCons (mVar 1) (mCons (mC (.int 1)) mNil)))) (mCons (mCallF 3 m__law_side (mCons (mVar 0) (mCons (mVar 1) (mCons (mC (.int 2)) mNil)))) mNil)))
  r__law_trade_1))
theorem r__law_trade_2_e : r__law_trade_2 = (mSeq (mPar2 6 7 (mCons (mCallF 3 m__law_side (mCons (mVar 0) (mCons (mVar 1) (mCons (mC (.int 1)) mNil)))) (mCons (mCallF 3 m__law_side (mCons (mVar 0) (mCons (mVar 1) (mCons (mC (.int 2)) mNil)))) mNil)))
  r__law_trade_1) := shut_eq _
noncomputable def r__law_trade_3 : MS := shut ((mSeq (mSet 5 (mCall gTuple (mCons (mLc (iR1 (mCons (mVar 1) mNil)) (.nm 8) mYes (mOp fMul (mVar 4) (mCall gInt (mCons (mOp (fEq fun b => b) (mVar 8) (mVar 3)) mNil))) [8]) mNil)))
  r__law_trade_2))
theorem r__law_trade_3_e : r__law_trade_3 = (mSeq (mSet 5 (mCall gTuple (mCons (mLc (iR1 (mCons (mVar 1) mNil)) (.nm 8) mYes (mOp fMul (mVar 4) (mCall gInt (mCons (mOp (fEq fun b => b) (mVar 8) (mVar 3)) mNil))) [8]) mNil)))
  r__law_trade_2) := shut_eq _
noncomputable def r__law_trade_4 : MS := shut ((mSeq (mAsg (mTup (mCons (mCallF 2 m__law_draw (mCons (mVar 0) (mCons (mVar 1) mNil))) (mCons (mOp fAdd (mC (.int 1)) (mCallF 2 m__law_draw (mCons (mVar 0) (mCons (mOp fSub (mVar 2) (mC (.int 2))) mNil)))) mNil))) (gTg (.tp [(.nm 3), (.nm 4)])))
  r__law_trade_3))
theorem r__law_trade_4_e : r__law_trade_4 = (mSeq (mAsg (mTup (mCons (mCallF 2 m__law_draw (mCons (mVar 0) (mCons (mVar 1) mNil))) (mCons (mOp fAdd (mC (.int 1)) (mCallF 2 m__law_draw (mCons (mVar 0) (mCons (mOp fSub (mVar 2) (mC (.int 2))) mNil)))) mNil))) (gTg (.tp [(.nm 3), (.nm 4)])))
  r__law_trade_3) := shut_eq _
noncomputable def b__law_trade : MS := shut ((mSeq (mIfS (mOr (mT (mOp fLt (mVar 2) (mC (.int 3)))) (mT (mOp (fEq fun b => b) (mCallF 2 m__law_draw (mCons (mVar 0) (mCons (mC (.int 2)) mNil))) (mC (.int 0))))) (mRet (mTup (mCons (mCallF 3 m__law_side (mCons (mVar 0) (mCons (mVar 1) (mCons (mVar 2) mNil)))) (mCons (mCallF 3 m__law_side (mCons (mVar 0) (mCons (mVar 1) (mCons (mVar 2) mNil)))) mNil)))) mNext)
  r__law_trade_4))
theorem b__law_trade_e : b__law_trade = (mSeq (mIfS (mOr (mT (mOp fLt (mVar 2) (mC (.int 3)))) (mT (mOp (fEq fun b => b) (mCallF 2 m__law_draw (mCons (mVar 0) (mCons (mC (.int 2)) mNil))) (mC (.int 0))))) (mRet (mTup (mCons (mCallF 3 m__law_side (mCons (mVar 0) (mCons (mVar 1) (mCons (mVar 2) mNil)))) (mCons (mCallF 3 m__law_side (mCons (mVar 0) (mCons (mVar 1) (mCons (mVar 2) mNil)))) mNil)))) mNext)
  r__law_trade_4) := shut_eq _
noncomputable def m__law_trade : GX := shut (mBody 9 b__law_trade)
theorem m__law_trade_e : m__law_trade = mBody 9 b__law_trade := shut_eq _
noncomputable def b__law_market : MS := shut ((mRet (mTup (mCons (mVar 1) (mCons (mCall gTuple (mCons (mLc (iR1 (mCons (mCallF 2 m__law_draw (mCons (mVar 0) (mCons (mOp fAdd (mVar 2) (mC (.int 1))) mNil))) mNil)) (.nm 4) mYes (mCallF 3 m__law_trade (mCons (mVar 0) (mCons (mVar 1) (mCons (mVar 3) mNil)))) [4]) mNil)) mNil)))))
theorem b__law_market_e : b__law_market = (mRet (mTup (mCons (mVar 1) (mCons (mCall gTuple (mCons (mLc (iR1 (mCons (mCallF 2 m__law_draw (mCons (mVar 0) (mCons (mOp fAdd (mVar 2) (mC (.int 1))) mNil))) mNil)) (.nm 4) mYes (mCallF 3 m__law_trade (mCons (mVar 0) (mCons (mVar 1) (mCons (mVar 3) mNil)))) [4]) mNil)) mNil)))) := shut_eq _
noncomputable def m__law_market : GX := shut (mBody 5 b__law_market)
theorem m__law_market_e : m__law_market = mBody 5 b__law_market := shut_eq _
noncomputable def r__law_any_market_1 : MS := shut ((mRet (mCallF 4 m__law_market (mCons (mVar 0) (mCons (mVar 1) (mCons (mIf (mT (mOp fLt (mVar 1) (mC (.int 3)))) (mC (.int 4)) (mOp fSub (mC (.int 5)) (mVar 1))) (mCons (mIf (mT (mOp fLt (mVar 1) (mC (.int 3)))) (mC (.int 4)) (mC (.int 3))) mNil)))))))
theorem r__law_any_market_1_e : r__law_any_market_1 = (mRet (mCallF 4 m__law_market (mCons (mVar 0) (mCons (mVar 1) (mCons (mIf (mT (mOp fLt (mVar 1) (mC (.int 3)))) (mC (.int 4)) (mOp fSub (mC (.int 5)) (mVar 1))) (mCons (mIf (mT (mOp fLt (mVar 1) (mC (.int 3)))) (mC (.int 4)) (mC (.int 3))) mNil)))))) := shut_eq _
noncomputable def b__law_any_market : MS := shut ((mSeq (mSet 1 (mOp fAdd (mC (.int 1)) (mCallF 2 m__law_draw (mCons (mVar 0) (mCons (mC (.int 4)) mNil)))))
  r__law_any_market_1))
theorem b__law_any_market_e : b__law_any_market = (mSeq (mSet 1 (mOp fAdd (mC (.int 1)) (mCallF 2 m__law_draw (mCons (mVar 0) (mCons (mC (.int 4)) mNil)))))
  r__law_any_market_1) := shut_eq _
noncomputable def m__law_any_market : GX := shut (mBody 2 b__law_any_market)
theorem m__law_any_market_e : m__law_any_market = mBody 2 b__law_any_market := shut_eq _
noncomputable def b__law_less : MS := shut ((mRet (mCall gTuple (mCons (mLc (iZ (mCons (mVar 0) (mCons (mVar 1) mNil))) (.tp [(.nm 2), (.nm 3)]) mYes (mOp fSub (mVar 2) (mVar 3)) [2, 3]) mNil))))
theorem b__law_less_e : b__law_less = (mRet (mCall gTuple (mCons (mLc (iZ (mCons (mVar 0) (mCons (mVar 1) mNil))) (.tp [(.nm 2), (.nm 3)]) mYes (mOp fSub (mVar 2) (mVar 3)) [2, 3]) mNil))) := shut_eq _
noncomputable def m__law_less : GX := shut (mBody 4 b__law_less)
theorem m__law_less_e : m__law_less = mBody 4 b__law_less := shut_eq _
noncomputable def b__law_holds : MS := shut ((mRet (mOp (fEqN fun b => b) (mLc (iZ (mCons (mVar 0) (mCons (mVar 1) mNil))) (.tp [(.nm 2), (.nm 3)]) (mT (mOp fLt (mVar 2) (mVar 3))) (mVar 2) [2, 3]) (mLst mNil))))
theorem b__law_holds_e : b__law_holds = (mRet (mOp (fEqN fun b => b) (mLc (iZ (mCons (mVar 0) (mCons (mVar 1) mNil))) (.tp [(.nm 2), (.nm 3)]) (mT (mOp fLt (mVar 2) (mVar 3))) (mVar 2) [2, 3]) (mLst mNil))) := shut_eq _
noncomputable def m__law_holds : GX := shut (mBody 4 b__law_holds)
theorem m__law_holds_e : m__law_holds = mBody 4 b__law_holds := shut_eq _
end LB
namespace LB
open PySem PySem.Spec PyProof.Rows L2 DL
noncomputable def b_bag_text : MS := shut ((mRet (mMeth "str" gJoin (mC (.str " ")) (mCons (mLc (iS (mVar 0)) (.nm 1) mYes (mCall gStr (mCons (mVar 1) mNil)) [1]) mNil))))
theorem b_bag_text_e : b_bag_text = (mRet (mMeth "str" gJoin (mC (.str " ")) (mCons (mLc (iS (mVar 0)) (.nm 1) mYes (mCall gStr (mCons (mVar 1) mNil)) [1]) mNil))) := shut_eq _
noncomputable def m_bag_text : GX := shut (mBody 2 b_bag_text)
theorem m_bag_text_e : m_bag_text = mBody 2 b_bag_text := shut_eq _
noncomputable def f_market_text_1 : MS := shut ((mExpr (mMeth "list" gAppend (mVar 1) (mCons (mOp fAdd (mOp fAdd (mCallF 1 m_bag_text (mCons (mVar 2) mNil)) (mC (.str " = "))) (mCallF 1 m_bag_text (mCons (mVar 3) mNil))) mNil))))
theorem f_market_text_1_e : f_market_text_1 = (mExpr (mMeth "list" gAppend (mVar 1) (mCons (mOp fAdd (mOp fAdd (mCallF 1 m_bag_text (mCons (mVar 2) mNil)) (mC (.str " = "))) (mCallF 1 m_bag_text (mCons (mVar 3) mNil))) mNil))) := shut_eq _
noncomputable def r_market_text_1 : MS := shut ((mRet (mMeth "str" gJoin (mC (.str "\n")) (mCons (mVar 1) mNil))))
theorem r_market_text_1_e : r_market_text_1 = (mRet (mMeth "str" gJoin (mC (.str "\n")) (mCons (mVar 1) mNil))) := shut_eq _
noncomputable def r_market_text_2 : MS := shut ((mSeq (mFor (iS (mOp fIx (mVar 0) (mC (.int 1)))) (gTg (.tp [(.nm 2), (.nm 3)])) f_market_text_1)
  r_market_text_1))
theorem r_market_text_2_e : r_market_text_2 = (mSeq (mFor (iS (mOp fIx (mVar 0) (mC (.int 1)))) (gTg (.tp [(.nm 2), (.nm 3)])) f_market_text_1)
  r_market_text_1) := shut_eq _
noncomputable def b_market_text : MS := shut ((mSeq (mSet 1 (mLstO (mCons (mOp fAdd (mC (.str "goods ")) (mCall gStr (mCons (mOp fIx (mVar 0) (mC (.int 0))) mNil))) mNil)))
  r_market_text_2))
theorem b_market_text_e : b_market_text = (mSeq (mSet 1 (mLstO (mCons (mOp fAdd (mC (.str "goods ")) (mCall gStr (mCons (mOp fIx (mVar 0) (mC (.int 0))) mNil))) mNil)))
  r_market_text_2) := shut_eq _
noncomputable def m_market_text : GX := shut (mBody 4 b_market_text)
theorem m_market_text_e : m_market_text = mBody 4 b_market_text := shut_eq _
noncomputable def f_read_goods_1 : MS := shut ((mIfS (mT (mOp (fEq fun b => b) (mVar 0) (mOp fAdd (mC (.str "goods ")) (mCall gStr (mCons (mVar 1) mNil))))) (mRet (mVar 1)) mNext))
theorem f_read_goods_1_e : f_read_goods_1 = (mIfS (mT (mOp (fEq fun b => b) (mVar 0) (mOp fAdd (mC (.str "goods ")) (mCall gStr (mCons (mVar 1) mNil))))) (mRet (mVar 1)) mNext) := shut_eq _
noncomputable def r_read_goods_1 : MS := shut ((mRet (mC (.int 0))))
theorem r_read_goods_1_e : r_read_goods_1 = (mRet (mC (.int 0))) := shut_eq _
noncomputable def b_read_goods : MS := shut ((mSeq (mFor (iR2 (mCons (mC (.int 1)) (mCons (mOp fAdd (mC (.int 4)) (mC (.int 1))) mNil))) (gTg (.nm 1)) f_read_goods_1)
  r_read_goods_1))
theorem b_read_goods_e : b_read_goods = (mSeq (mFor (iR2 (mCons (mC (.int 1)) (mCons (mOp fAdd (mC (.int 4)) (mC (.int 1))) mNil))) (gTg (.nm 1)) f_read_goods_1)
  r_read_goods_1) := shut_eq _
noncomputable def m_read_goods : GX := shut (mBody 2 b_read_goods)
theorem m_read_goods_e : m_read_goods = mBody 2 b_read_goods := shut_eq _
noncomputable def r_read_bag_1 : MS := shut ((mRet (mIf (mAnd (mT (mOp fLe (mCall gMaxT (mCons (mVar 1) mNil)) (mC (.int 3)))) (mT (mOp fLe (mCall gSum (mCons (mVar 1) mNil)) (mC (.int 4))))) (mVar 1) (mC .non))))
theorem r_read_bag_1_e : r_read_bag_1 = (mRet (mIf (mAnd (mT (mOp fLe (mCall gMaxT (mCons (mVar 1) mNil)) (mC (.int 3)))) (mT (mOp fLe (mCall gSum (mCons (mVar 1) mNil)) (mC (.int 4))))) (mVar 1) (mC .non))) := shut_eq _
noncomputable def r_read_bag_2 : MS := shut ((mSeq (mSet 1 (mCall gTuple (mCons (mLc (iS (mVar 0)) (.nm 2) mYes (mCall gIntS (mCons (mVar 2) mNil)) [2]) mNil)))
  r_read_bag_1))
theorem r_read_bag_2_e : r_read_bag_2 = (mSeq (mSet 1 (mCall gTuple (mCons (mLc (iS (mVar 0)) (.nm 2) mYes (mCall gIntS (mCons (mVar 2) mNil)) [2]) mNil)))
  r_read_bag_1) := shut_eq _
noncomputable def b_read_bag : MS := shut ((mSeq (mIfS (mT (mOp (fEqN fun b => !b) (mLc (iS (mVar 0)) (.nm 2) (mOr (mT (mOp (fEq fun b => !b) (mCall gLen (mCons (mVar 2) mNil)) (mC (.int 1)))) (mT (mOp (fInS fun b => !b) (mVar 2) (mC (.str "01234"))))) (mVar 2) [2]) (mLst mNil))) (mRet (mC .non)) mNext)
  r_read_bag_2))
theorem b_read_bag_e : b_read_bag = (mSeq (mIfS (mT (mOp (fEqN fun b => !b) (mLc (iS (mVar 0)) (.nm 2) (mOr (mT (mOp (fEq fun b => !b) (mCall gLen (mCons (mVar 2) mNil)) (mC (.int 1)))) (mT (mOp (fInS fun b => !b) (mVar 2) (mC (.str "01234"))))) (mVar 2) [2]) (mLst mNil))) (mRet (mC .non)) mNext)
  r_read_bag_2) := shut_eq _
noncomputable def m_read_bag : GX := shut (mBody 3 b_read_bag)
theorem m_read_bag_e : m_read_bag = mBody 3 b_read_bag := shut_eq _
noncomputable def r_read_trade_1 : MS := shut ((mRet (mIf (mOr (mT (mOp (fIs fun b => b) (mVar 3) (mC .non))) (mT (mOp (fIs fun b => b) (mVar 4) (mC .non)))) (mC .non) (mTup (mCons (mVar 3) (mCons (mVar 4) mNil))))))
theorem r_read_trade_1_e : r_read_trade_1 = (mRet (mIf (mOr (mT (mOp (fIs fun b => b) (mVar 3) (mC .non))) (mT (mOp (fIs fun b => b) (mVar 4) (mC .non)))) (mC .non) (mTup (mCons (mVar 3) (mCons (mVar 4) mNil))))) := shut_eq _
noncomputable def r_read_trade_2 : MS := shut ((mSeq (mPar2 3 4 (mCons (mCallF 1 m_read_bag (mCons (mSl fSl (mVar 2) mPN (mPS (mVar 1))) mNil)) (mCons (mCallF 1 m_read_bag (mCons (mSl fSl (mVar 2) (mPS (mOp fAdd (mVar 1) (mC (.int 1)))) mPN) mNil)) mNil)))
  r_read_trade_1))
theorem r_read_trade_2_e : r_read_trade_2 = (mSeq (mPar2 3 4 (mCons (mCallF 1 m_read_bag (mCons (mSl fSl (mVar 2) mPN (mPS (mVar 1))) mNil)) (mCons (mCallF 1 m_read_bag (mCons (mSl fSl (mVar 2) (mPS (mOp fAdd (mVar 1) (mC (.int 1)))) mPN) mNil)) mNil)))
  r_read_trade_1) := shut_eq _
noncomputable def r_read_trade_3 : MS := shut ((mSeq (mIfS (mOr (mT (mOp (fEq fun b => !b) (mCall gLen (mCons (mVar 2) mNil)) (mOp fAdd (mOp fMul (mC (.int 2)) (mVar 1)) (mC (.int 1))))) (mT (mOp (fEq fun b => !b) (mOp fIx (mVar 2) (mVar 1)) (mC (.str "="))))) (mRet (mC .non)) mNext)
  r_read_trade_2))
theorem r_read_trade_3_e : r_read_trade_3 = (mSeq (mIfS (mOr (mT (mOp (fEq fun b => !b) (mCall gLen (mCons (mVar 2) mNil)) (mOp fAdd (mOp fMul (mC (.int 2)) (mVar 1)) (mC (.int 1))))) (mT (mOp (fEq fun b => !b) (mOp fIx (mVar 2) (mVar 1)) (mC (.str "="))))) (mRet (mC .non)) mNext)
  r_read_trade_2) := shut_eq _
noncomputable def b_read_trade : MS := shut ((mSeq (mSet 2 (mMeth "str" gSplit (mVar 0) (mCons (mC (.str " ")) mNil)))
  r_read_trade_3))
theorem b_read_trade_e : b_read_trade = (mSeq (mSet 2 (mMeth "str" gSplit (mVar 0) (mCons (mC (.str " ")) mNil)))
  r_read_trade_3) := shut_eq _
noncomputable def m_read_trade : GX := shut (mBody 5 b_read_trade)
theorem m_read_trade_e : m_read_trade = mBody 5 b_read_trade := shut_eq _
end LB
namespace G_k06
open PySem PySem.Spec PyProof.Rows L2 DL LB
abbrev pw : Program := PySem.Challenge.pw_lentbeside_k06_texts_that_are_wrong
def top (i : Nat) : Stmt := pw.main.body.getD i (.Pass ⟨0, 0, 0, 0⟩)
noncomputable def r_read_market_1 : MS := shut ((mExpr (mMeth "list" gAppend (mVar 3) (mCons (mVar 6) mNil))))
theorem r_read_market_1_e : r_read_market_1 = (mExpr (mMeth "list" gAppend (mVar 3) (mCons (mVar 6) mNil))) := shut_eq _
noncomputable def r_read_market_2 : MS := shut ((mSeq (mIfS (mOr (mT (mOp (fIs fun b => b) (mVar 6) (mC .non))) (mT (mOp (fEq fun b => b) (mVar 4) (mC (.int 4))))) (mRaise1 "BadText" "line" (mOp fAdd (mVar 4) (mC (.int 1)))) mNext)
  r_read_market_1))
theorem r_read_market_2_e : r_read_market_2 = (mSeq (mIfS (mOr (mT (mOp (fIs fun b => b) (mVar 6) (mC .non))) (mT (mOp (fEq fun b => b) (mVar 4) (mC (.int 4))))) (mRaise1 "BadText" "line" (mOp fAdd (mVar 4) (mC (.int 1)))) mNext)
  r_read_market_1) := shut_eq _
noncomputable def f_read_market_1 : MS := shut ((mSeq (mSet 6 (mCallF 2 m_read_trade (mCons (mVar 5) (mCons (mVar 2) mNil))))
  r_read_market_2))
theorem f_read_market_1_e : f_read_market_1 = (mSeq (mSet 6 (mCallF 2 m_read_trade (mCons (mVar 5) (mCons (mVar 2) mNil))))
  r_read_market_2) := shut_eq _
noncomputable def r_read_market_3 : MS := shut ((mRet (mTup (mCons (mVar 2) (mCons (mCall gTuple (mCons (mVar 3) mNil)) mNil)))))
theorem r_read_market_3_e : r_read_market_3 = (mRet (mTup (mCons (mVar 2) (mCons (mCall gTuple (mCons (mVar 3) mNil)) mNil)))) := shut_eq _
noncomputable def r_read_market_4 : MS := shut ((mSeq (mFor (iE (mCons (mSl fSl (mVar 1) (mPS (mC (.int 1))) mPN) mNil)) (gTg (.tp [(.nm 4), (.nm 5)])) f_read_market_1)
  r_read_market_3))
theorem r_read_market_4_e : r_read_market_4 = (mSeq (mFor (iE (mCons (mSl fSl (mVar 1) (mPS (mC (.int 1))) mPN) mNil)) (gTg (.tp [(.nm 4), (.nm 5)])) f_read_market_1)
  r_read_market_3) := shut_eq _
noncomputable def r_read_market_5 : MS := shut ((mSeq (mIfS (mT (mOp (fEq fun b => b) (mVar 2) (mC (.int 0)))) (mRaise1 "BadText" "line" (mC (.int 0))) mNext)
  r_read_market_4))
theorem r_read_market_5_e : r_read_market_5 = (mSeq (mIfS (mT (mOp (fEq fun b => b) (mVar 2) (mC (.int 0)))) (mRaise1 "BadText" "line" (mC (.int 0))) mNext)
  r_read_market_4) := shut_eq _
noncomputable def r_read_market_6 : MS := shut ((mSeq (mPar2 2 3 (mCons (mCallF 1 m_read_goods (mCons (mOp fIx (mVar 1) (mC (.int 0))) mNil)) (mCons (mLstO mNil) mNil)))
  r_read_market_5))
theorem r_read_market_6_e : r_read_market_6 = (mSeq (mPar2 2 3 (mCons (mCallF 1 m_read_goods (mCons (mOp fIx (mVar 1) (mC (.int 0))) mNil)) (mCons (mLstO mNil) mNil)))
  r_read_market_5) := shut_eq _
noncomputable def r_read_market_7 : MS := shut ((mSeq (mSet 1 (mMeth "str" gSplit (mVar 0) (mCons (mC (.str "\n")) mNil)))
  r_read_market_6))
theorem r_read_market_7_e : r_read_market_7 = (mSeq (mSet 1 (mMeth "str" gSplit (mVar 0) (mCons (mC (.str "\n")) mNil)))
  r_read_market_6) := shut_eq _
noncomputable def b_read_market : MS := shut ((mSeq (mIfS (mNot (mT (mCall gIsi (mCons (mVar 0) (mCons (mC (.ty "str")) mNil))))) (mRaise1 "BadText" "line" (mC .non)) mNext)
  r_read_market_7))
theorem b_read_market_e : b_read_market = (mSeq (mIfS (mNot (mT (mCall gIsi (mCons (mVar 0) (mCons (mC (.ty "str")) mNil))))) (mRaise1 "BadText" "line" (mC .non)) mNext)
  r_read_market_7) := shut_eq _
noncomputable def m_read_market : GX := shut (mBody 7 b_read_market)
theorem m_read_market_e : m_read_market = mBody 7 b_read_market := shut_eq _
noncomputable def b__law_found : MS := shut ((mNoEx (mTryL 1 ["BadText"] "BadText" "bad" "line" (mRet (mLst (mCons (mC (.str "ok")) (mCons (mCallF 1 m_read_market (mCons (mVar 0) mNil)) mNil)))))))
theorem b__law_found_e : b__law_found = (mNoEx (mTryL 1 ["BadText"] "BadText" "bad" "line" (mRet (mLst (mCons (mC (.str "ok")) (mCons (mCallF 1 m_read_market (mCons (mVar 0) mNil)) mNil)))))) := shut_eq _
noncomputable def m__law_found : GX := shut (mBody 2 b__law_found)
theorem m__law_found_e : m__law_found = mBody 2 b__law_found := shut_eq _
noncomputable def r__law_bag_in_1 : MS := shut ((mRet (mIf (mT (mOp fLe (mCall gSum (mCons (mVar 2) mNil)) (mC (.int 4)))) (mVar 2) (mC .non))))
theorem r__law_bag_in_1_e : r__law_bag_in_1 = (mRet (mIf (mT (mOp fLe (mCall gSum (mCons (mVar 2) mNil)) (mC (.int 4)))) (mVar 2) (mC .non))) := shut_eq _
noncomputable def r__law_bag_in_2 : MS := shut ((mSeq (mSet 2 (mCall gTuple (mCons (mLc (iS (mVar 0)) (.nm 3) mYes (mMeth "str" gFind (mC (.str "0123")) (mCons (mVar 3) mNil)) [3]) mNil)))
  r__law_bag_in_1))
theorem r__law_bag_in_2_e : r__law_bag_in_2 = (mSeq (mSet 2 (mCall gTuple (mCons (mLc (iS (mVar 0)) (.nm 3) mYes (mMeth "str" gFind (mC (.str "0123")) (mCons (mVar 3) mNil)) [3]) mNil)))
  r__law_bag_in_1) := shut_eq _
noncomputable def b__law_bag_in : MS := shut ((mSeq (mIfS (mOr (mT (mOp (fEq fun b => !b) (mCall gLen (mCons (mVar 0) mNil)) (mVar 1))) (mT (mOp (fEqN fun b => !b) (mLc (iS (mVar 0)) (.nm 3) (mT (mOp (fInL fun b => !b) (mVar 3) (mLst (mCons (mC (.str "0")) (mCons (mC (.str "1")) (mCons (mC (.str "2")) (mCons (mC (.str "3")) mNil))))))) (mVar 3) [3]) (mLst mNil)))) (mRet (mC .non)) mNext)
  r__law_bag_in_2))
theorem b__law_bag_in_e : b__law_bag_in = (mSeq (mIfS (mOr (mT (mOp (fEq fun b => !b) (mCall gLen (mCons (mVar 0) mNil)) (mVar 1))) (mT (mOp (fEqN fun b => !b) (mLc (iS (mVar 0)) (.nm 3) (mT (mOp (fInL fun b => !b) (mVar 3) (mLst (mCons (mC (.str "0")) (mCons (mC (.str "1")) (mCons (mC (.str "2")) (mCons (mC (.str "3")) mNil))))))) (mVar 3) [3]) (mLst mNil)))) (mRet (mC .non)) mNext)
  r__law_bag_in_2) := shut_eq _
noncomputable def m__law_bag_in : GX := shut (mBody 4 b__law_bag_in)
theorem m__law_bag_in_e : m__law_bag_in = mBody 4 b__law_bag_in := shut_eq _
noncomputable def r__law_due_1 : MS := shut ((mExpr (mMeth "list" gAppend (mVar 2) (mCons (mTup (mCons (mVar 6) (mCons (mVar 7) mNil))) mNil))))
theorem r__law_due_1_e : r__law_due_1 = (mExpr (mMeth "list" gAppend (mVar 2) (mCons (mTup (mCons (mVar 6) (mCons (mVar 7) mNil))) mNil))) := shut_eq _
noncomputable def r__law_due_2 : MS := shut ((mSeq (mIfS (mOr (mT (mOp (fIs fun b => b) (mVar 6) (mC .non))) (mOr (mT (mOp (fIs fun b => b) (mVar 7) (mC .non))) (mOr (mT (mOp (fEq fun b => !b) (mOp fIx (mVar 5) (mVar 3)) (mC (.str "=")))) (mT (mOp fGt (mVar 4) (mC (.int 4))))))) (mRet (mLst (mCons (mC (.str "bad")) (mCons (mVar 4) mNil)))) mNext)
  r__law_due_1))
theorem r__law_due_2_e : r__law_due_2 = (mSeq (mIfS (mOr (mT (mOp (fIs fun b => b) (mVar 6) (mC .non))) (mOr (mT (mOp (fIs fun b => b) (mVar 7) (mC .non))) (mOr (mT (mOp (fEq fun b => !b) (mOp fIx (mVar 5) (mVar 3)) (mC (.str "=")))) (mT (mOp fGt (mVar 4) (mC (.int 4))))))) (mRet (mLst (mCons (mC (.str "bad")) (mCons (mVar 4) mNil)))) mNext)
  r__law_due_1) := shut_eq _
noncomputable def r__law_due_3 : MS := shut ((mSeq (mPar2 6 7 (mCons (mCallF 2 m__law_bag_in (mCons (mSl fSl (mVar 5) mPN (mPS (mVar 3))) (mCons (mVar 3) mNil))) (mCons (mCallF 2 m__law_bag_in (mCons (mSl fSl (mVar 5) (mPS (mOp fAdd (mVar 3) (mC (.int 1)))) mPN) (mCons (mVar 3) mNil))) mNil)))
  r__law_due_2))
theorem r__law_due_3_e : r__law_due_3 = (mSeq (mPar2 6 7 (mCons (mCallF 2 m__law_bag_in (mCons (mSl fSl (mVar 5) mPN (mPS (mVar 3))) (mCons (mVar 3) mNil))) (mCons (mCallF 2 m__law_bag_in (mCons (mSl fSl (mVar 5) (mPS (mOp fAdd (mVar 3) (mC (.int 1)))) mPN) (mCons (mVar 3) mNil))) mNil)))
  r__law_due_2) := shut_eq _
noncomputable def f__law_due_1 : MS := shut ((mSeq (mSet 5 (mMeth "str" gSplit (mOp fIx (mVar 1) (mVar 4)) (mCons (mC (.str " ")) mNil)))
  r__law_due_3))
theorem f__law_due_1_e : f__law_due_1 = (mSeq (mSet 5 (mMeth "str" gSplit (mOp fIx (mVar 1) (mVar 4)) (mCons (mC (.str " ")) mNil)))
  r__law_due_3) := shut_eq _
noncomputable def r__law_due_4 : MS := shut ((mRet (mLst (mCons (mC (.str "ok")) (mCons (mTup (mCons (mVar 3) (mCons (mCall gTuple (mCons (mVar 2) mNil)) mNil))) mNil)))))
theorem r__law_due_4_e : r__law_due_4 = (mRet (mLst (mCons (mC (.str "ok")) (mCons (mTup (mCons (mVar 3) (mCons (mCall gTuple (mCons (mVar 2) mNil)) mNil))) mNil)))) := shut_eq _
noncomputable def r__law_due_5 : MS := shut ((mSeq (mFor (iR2 (mCons (mC (.int 1)) (mCons (mCall gLen (mCons (mVar 1) mNil)) mNil))) (gTg (.nm 4)) f__law_due_1)
  r__law_due_4))
theorem r__law_due_5_e : r__law_due_5 = (mSeq (mFor (iR2 (mCons (mC (.int 1)) (mCons (mCall gLen (mCons (mVar 1) mNil)) mNil))) (gTg (.nm 4)) f__law_due_1)
  r__law_due_4) := shut_eq _
noncomputable def r__law_due_6 : MS := shut ((mSeq (mSet 3 (mMeth "str" gFind (mC (.str "01234")) (mCons (mOp fIxS (mOp fIx (mVar 1) (mC (.int 0))) (mUn fNeg (mC (.int 1)))) mNil)))
  r__law_due_5))
theorem r__law_due_6_e : r__law_due_6 = (mSeq (mSet 3 (mMeth "str" gFind (mC (.str "01234")) (mCons (mOp fIxS (mOp fIx (mVar 1) (mC (.int 0))) (mUn fNeg (mC (.int 1)))) mNil)))
  r__law_due_5) := shut_eq _
noncomputable def r__law_due_7 : MS := shut ((mSeq (mIfS (mT (mOp (fInL fun b => !b) (mOp fIx (mVar 1) (mC (.int 0))) (mLst (mCons (mC (.str "goods 1")) (mCons (mC (.str "goods 2")) (mCons (mC (.str "goods 3")) (mCons (mC (.str "goods 4")) mNil))))))) (mRet (mLst (mCons (mC (.str "bad")) (mCons (mC (.int 0)) mNil)))) mNext)
  r__law_due_6))
theorem r__law_due_7_e : r__law_due_7 = (mSeq (mIfS (mT (mOp (fInL fun b => !b) (mOp fIx (mVar 1) (mC (.int 0))) (mLst (mCons (mC (.str "goods 1")) (mCons (mC (.str "goods 2")) (mCons (mC (.str "goods 3")) (mCons (mC (.str "goods 4")) mNil))))))) (mRet (mLst (mCons (mC (.str "bad")) (mCons (mC (.int 0)) mNil)))) mNext)
  r__law_due_6) := shut_eq _
noncomputable def b__law_due : MS := shut ((mSeq (mPar2 1 2 (mCons (mMeth "str" gSplit (mVar 0) (mCons (mC (.str "\n")) mNil)) (mCons (mLstO mNil) mNil)))
  r__law_due_7))
theorem b__law_due_e : b__law_due = (mSeq (mPar2 1 2 (mCons (mMeth "str" gSplit (mVar 0) (mCons (mC (.str "\n")) mNil)) (mCons (mLstO mNil) mNil)))
  r__law_due_7) := shut_eq _
noncomputable def m__law_due : GX := shut (mBody 8 b__law_due)
theorem m__law_due_e : m__law_due = mBody 8 b__law_due := shut_eq _
noncomputable def r__law_other_1 : MS := shut ((mRet (mMeth "str" gJoin (mC (.str "\n")) (mCons (mOp fAdd (mOp fAdd (mSl fSl (mVar 5) mPN (mPS (mOp fAdd (mVar 6) (mCall gInt (mCons (mOp (fEq fun b => b) (mVar 3) (mC (.int 5))) mNil))))) (mLst (mCons (mVar 7) mNil))) (mSl fSl (mVar 5) (mPS (mOp fAdd (mVar 6) (mCall gInt (mCons (mOp (fEq fun b => b) (mVar 3) (mC (.int 5))) mNil)))) mPN)) mNil))))
theorem r__law_other_1_e : r__law_other_1 = (mRet (mMeth "str" gJoin (mC (.str "\n")) (mCons (mOp fAdd (mOp fAdd (mSl fSl (mVar 5) mPN (mPS (mOp fAdd (mVar 6) (mCall gInt (mCons (mOp (fEq fun b => b) (mVar 3) (mC (.int 5))) mNil))))) (mLst (mCons (mVar 7) mNil))) (mSl fSl (mVar 5) (mPS (mOp fAdd (mVar 6) (mCall gInt (mCons (mOp (fEq fun b => b) (mVar 3) (mC (.int 5))) mNil)))) mPN)) mNil))) := shut_eq _
noncomputable def r__law_other_2 : MS := shut ((mSeq (mSet 7 (mCallF 2 m__law_one (mCons (mVar 0) (mCons (mLst (mCons (mOp fIx (mVar 5) (mVar 6)) (mCons (mC (.str "")) (mCons (mC (.str "goods 2")) (mCons (mC (.str "1 = 0")) (mCons (mC (.str "0 0 = 0 0")) (mCons (mC (.str "1 0 2 = 0 0 0")) (mCons (mC (.str " ")) (mCons (mC (.str "= =")) mNil))))))))) mNil))))
  r__law_other_1))
theorem r__law_other_2_e : r__law_other_2 = (mSeq (mSet 7 (mCallF 2 m__law_one (mCons (mVar 0) (mCons (mLst (mCons (mOp fIx (mVar 5) (mVar 6)) (mCons (mC (.str "")) (mCons (mC (.str "goods 2")) (mCons (mC (.str "1 = 0")) (mCons (mC (.str "0 0 = 0 0")) (mCons (mC (.str "1 0 2 = 0 0 0")) (mCons (mC (.str " ")) (mCons (mC (.str "= =")) mNil))))))))) mNil))))
  r__law_other_1) := shut_eq _
noncomputable def r__law_other_3 : MS := shut ((mSeq (mIfS (mT (mOp (fEq fun b => b) (mVar 3) (mC (.int 4)))) (mRet (mMeth "str" gJoin (mC (.str "\n")) (mCons (mOp fAdd (mSl fSl (mVar 5) mPN (mPS (mVar 6))) (mSl fSl (mVar 5) (mPS (mOp fAdd (mVar 6) (mC (.int 1)))) mPN)) mNil))) mNext)
  r__law_other_2))
theorem r__law_other_3_e : r__law_other_3 = (mSeq (mIfS (mT (mOp (fEq fun b => b) (mVar 3) (mC (.int 4)))) (mRet (mMeth "str" gJoin (mC (.str "\n")) (mCons (mOp fAdd (mSl fSl (mVar 5) mPN (mPS (mVar 6))) (mSl fSl (mVar 5) (mPS (mOp fAdd (mVar 6) (mC (.int 1)))) mPN)) mNil))) mNext)
  r__law_other_2) := shut_eq _
noncomputable def r__law_other_4 : MS := shut ((mSeq (mSet 6 (mCallF 2 m__law_draw (mCons (mVar 0) (mCons (mCall gLen (mCons (mVar 5) mNil)) mNil))))
  r__law_other_3))
theorem r__law_other_4_e : r__law_other_4 = (mSeq (mSet 6 (mCallF 2 m__law_draw (mCons (mVar 0) (mCons (mCall gLen (mCons (mVar 5) mNil)) mNil))))
  r__law_other_3) := shut_eq _
noncomputable def r__law_other_5 : MS := shut ((mSeq (mSet 5 (mMeth "str" gSplit (mVar 1) (mCons (mC (.str "\n")) mNil)))
  r__law_other_4))
theorem r__law_other_5_e : r__law_other_5 = (mSeq (mSet 5 (mMeth "str" gSplit (mVar 1) (mCons (mC (.str "\n")) mNil)))
  r__law_other_4) := shut_eq _
noncomputable def r__law_other_6 : MS := shut ((mSeq (mIfS (mT (mOp fLt (mVar 3) (mC (.int 4)))) (mRet (mIf (mT (mOp (fEq fun b => b) (mVar 3) (mC (.int 2)))) (mOp fAdd (mSl fSlS (mVar 1) mPN (mPS (mVar 2))) (mSl fSlS (mVar 1) (mPS (mOp fAdd (mVar 2) (mC (.int 1)))) mPN)) (mOp fAdd (mOp fAdd (mSl fSlS (mVar 1) mPN (mPS (mVar 2))) (mVar 4)) (mSl fSlS (mVar 1) (mPS (mOp fAdd (mVar 2) (mC (.int 1)))) mPN)))) mNext)
  r__law_other_5))
theorem r__law_other_6_e : r__law_other_6 = (mSeq (mIfS (mT (mOp fLt (mVar 3) (mC (.int 4)))) (mRet (mIf (mT (mOp (fEq fun b => b) (mVar 3) (mC (.int 2)))) (mOp fAdd (mSl fSlS (mVar 1) mPN (mPS (mVar 2))) (mSl fSlS (mVar 1) (mPS (mOp fAdd (mVar 2) (mC (.int 1)))) mPN)) (mOp fAdd (mOp fAdd (mSl fSlS (mVar 1) mPN (mPS (mVar 2))) (mVar 4)) (mSl fSlS (mVar 1) (mPS (mOp fAdd (mVar 2) (mC (.int 1)))) mPN)))) mNext)
  r__law_other_5) := shut_eq _
noncomputable def r__law_other_7 : MS := shut ((mSeq (mIfS (mT (mOp fLt (mVar 3) (mC (.int 2)))) (mRet (mOp fAdd (mOp fAdd (mSl fSlS (mVar 1) mPN (mPS (mVar 2))) (mVar 4)) (mSl fSlS (mVar 1) (mPS (mVar 2)) mPN))) mNext)
  r__law_other_6))
theorem r__law_other_7_e : r__law_other_7 = (mSeq (mIfS (mT (mOp fLt (mVar 3) (mC (.int 2)))) (mRet (mOp fAdd (mOp fAdd (mSl fSlS (mVar 1) mPN (mPS (mVar 2))) (mVar 4)) (mSl fSlS (mVar 1) (mPS (mVar 2)) mPN))) mNext)
  r__law_other_6) := shut_eq _
noncomputable def r__law_other_8 : MS := shut ((mSeq (mSet 4 (mCallF 2 m__law_one (mCons (mVar 0) (mCons (mLst (mCons (mC (.str " ")) (mCons (mC (.str "\n")) (mCons (mC (.str "0")) (mCons (mC (.str "1")) (mCons (mC (.str "3")) (mCons (mC (.str "4")) (mCons (mC (.str "9")) (mCons (mC (.str "=")) (mCons (mC (.str "-")) (mCons (mC (.str "g")) (mCons (mC (.str "s")) (mCons (mC (.str "+")) (mCons (mC (.str ".")) mNil)))))))))))))) mNil))))
  r__law_other_7))
theorem r__law_other_8_e : r__law_other_8 = (mSeq (mSet 4 (mCallF 2 m__law_one (mCons (mVar 0) (mCons (mLst (mCons (mC (.str " ")) (mCons (mC (.str "\n")) (mCons (mC (.str "0")) (mCons (mC (.str "1")) (mCons (mC (.str "3")) (mCons (mC (.str "4")) (mCons (mC (.str "9")) (mCons (mC (.str "=")) (mCons (mC (.str "-")) (mCons (mC (.str "g")) (mCons (mC (.str "s")) (mCons (mC (.str "+")) (mCons (mC (.str ".")) mNil)))))))))))))) mNil))))
  r__law_other_7) := shut_eq _
noncomputable def b__law_other : MS := shut ((mSeq (mPar2 2 3 (mCons (mCallF 2 m__law_draw (mCons (mVar 0) (mCons (mOp fAdd (mCall gLen (mCons (mVar 1) mNil)) (mC (.int 1))) mNil))) (mCons (mCallF 2 m__law_draw (mCons (mVar 0) (mCons (mC (.int 7)) mNil))) mNil)))
  r__law_other_8))
theorem b__law_other_e : b__law_other = (mSeq (mPar2 2 3 (mCons (mCallF 2 m__law_draw (mCons (mVar 0) (mCons (mOp fAdd (mCall gLen (mCons (mVar 1) mNil)) (mC (.int 1))) mNil))) (mCons (mCallF 2 m__law_draw (mCons (mVar 0) (mCons (mC (.int 7)) mNil))) mNil)))
  r__law_other_8) := shut_eq _
noncomputable def m__law_other : GX := shut (mBody 8 b__law_other)
theorem m__law_other_e : m__law_other = mBody 8 b__law_other := shut_eq _
noncomputable def f_law_1 : MS := shut ((mExpr (mMeth "list" gAppend (mVar 5) (mCons (mMeth "str" gJoin (mC (.str " ")) (mCons (mOp fAdd (mOp fAdd (mLc (iS (mVar 6)) (.nm 12) mYes (mCall gStr (mCons (mVar 12) mNil)) [12]) (mLst (mCons (mC (.str "=")) mNil))) (mLc (iS (mVar 7)) (.nm 12) mYes (mCall gStr (mCons (mVar 12) mNil)) [12])) mNil)) mNil))))
theorem f_law_1_e : f_law_1 = (mExpr (mMeth "list" gAppend (mVar 5) (mCons (mMeth "str" gJoin (mC (.str " ")) (mCons (mOp fAdd (mOp fAdd (mLc (iS (mVar 6)) (.nm 12) mYes (mCall gStr (mCons (mVar 12) mNil)) [12]) (mLst (mCons (mC (.str "=")) mNil))) (mLc (iS (mVar 7)) (.nm 12) mYes (mCall gStr (mCons (mVar 12) mNil)) [12])) mNil)) mNil))) := shut_eq _
noncomputable def r_law_1 : MS := shut ((mIfS (mT (mOp (fEq fun b => !b) (mCall gRepr (mCons (mCallF 1 m__law_found (mCons (mVar 9) mNil)) mNil)) (mCall gRepr (mCons (mCallF 1 m__law_due (mCons (mVar 9) mNil)) mNil)))) (mRet (mC (.bl false))) mNext))
theorem r_law_1_e : r_law_1 = (mIfS (mT (mOp (fEq fun b => !b) (mCall gRepr (mCons (mCallF 1 m__law_found (mCons (mVar 9) mNil)) mNil)) (mCall gRepr (mCons (mCallF 1 m__law_due (mCons (mVar 9) mNil)) mNil)))) (mRet (mC (.bl false))) mNext) := shut_eq _
noncomputable def f_law_2 : MS := shut ((mSeq (mSet 9 (mCallF 2 m__law_other (mCons (mVar 1) (mCons (mIf (mT (mOp fLt (mVar 10) (mC (.int 4)))) (mVar 8) (mVar 9)) mNil))))
  r_law_1))
theorem f_law_2_e : f_law_2 = (mSeq (mSet 9 (mCallF 2 m__law_other (mCons (mVar 1) (mCons (mIf (mT (mOp fLt (mVar 10) (mC (.int 4)))) (mVar 8) (mVar 9)) mNil))))
  r_law_1) := shut_eq _
noncomputable def r_law_2 : MS := shut ((mIfS (mT (mOp (fEq fun b => !b) (mCall gRepr (mCons (mLst (mCons (mCallF 1 m__law_found (mCons (mVar 11) mNil)) (mCons (mCallF 1 m__law_found (mCons (mC (.str "")) mNil)) (mCons (mCallF 1 m__law_found (mCons (mOp fAdd (mVar 8) (mC (.str "\n"))) mNil)) mNil)))) mNil)) (mCall gRepr (mCons (mLst (mCons (mLst (mCons (mC (.str "bad")) (mCons (mC .non) mNil))) (mCons (mLst (mCons (mC (.str "bad")) (mCons (mC (.int 0)) mNil))) (mCons (mLst (mCons (mC (.str "bad")) (mCons (mCall gLen (mCons (mVar 5) mNil)) mNil))) mNil)))) mNil)))) (mRet (mC (.bl false))) mNext))
theorem r_law_2_e : r_law_2 = (mIfS (mT (mOp (fEq fun b => !b) (mCall gRepr (mCons (mLst (mCons (mCallF 1 m__law_found (mCons (mVar 11) mNil)) (mCons (mCallF 1 m__law_found (mCons (mC (.str "")) mNil)) (mCons (mCallF 1 m__law_found (mCons (mOp fAdd (mVar 8) (mC (.str "\n"))) mNil)) mNil)))) mNil)) (mCall gRepr (mCons (mLst (mCons (mLst (mCons (mC (.str "bad")) (mCons (mC .non) mNil))) (mCons (mLst (mCons (mC (.str "bad")) (mCons (mC (.int 0)) mNil))) (mCons (mLst (mCons (mC (.str "bad")) (mCons (mCall gLen (mCons (mVar 5) mNil)) mNil))) mNil)))) mNil)))) (mRet (mC (.bl false))) mNext) := shut_eq _
noncomputable def r_law_3 : MS := shut ((mSeq (mSet 11 (mCallF 2 m__law_one (mCons (mVar 1) (mCons (mLst (mCons (mC .non) (mCons (mC (.int 5)) (mCons (mC (.bl true)) (mCons (mLst (mCons (mC (.str "goods 1")) mNil)) (mCons (mTup (mCons (mC (.str "goods 1")) mNil)) (mCons mDcx (mCons (mTup (mCons (mC (.int 1)) (mCons (mTup mNil) mNil))) mNil)))))))) mNil))))
  r_law_2))
theorem r_law_3_e : r_law_3 = (mSeq (mSet 11 (mCallF 2 m__law_one (mCons (mVar 1) (mCons (mLst (mCons (mC .non) (mCons (mC (.int 5)) (mCons (mC (.bl true)) (mCons (mLst (mCons (mC (.str "goods 1")) mNil)) (mCons (mTup (mCons (mC (.str "goods 1")) mNil)) (mCons mDcx (mCons (mTup (mCons (mC (.int 1)) (mCons (mTup mNil) mNil))) mNil)))))))) mNil))))
  r_law_2) := shut_eq _
noncomputable def r_law_4 : MS := shut ((mSeq (mFor (iR1 (mCons (mC (.int 6)) mNil)) (gTg (.nm 10)) f_law_2)
  r_law_3))
theorem r_law_4_e : r_law_4 = (mSeq (mFor (iR1 (mCons (mC (.int 6)) mNil)) (gTg (.nm 10)) f_law_2)
  r_law_3) := shut_eq _
noncomputable def r_law_5 : MS := shut ((mSeq (mSet 9 (mVar 8))
  r_law_4))
theorem r_law_5_e : r_law_5 = (mSeq (mSet 9 (mVar 8))
  r_law_4) := shut_eq _
noncomputable def r_law_6 : MS := shut ((mSeq (mSet 8 (mMeth "str" gJoin (mC (.str "\n")) (mCons (mVar 5) mNil)))
  r_law_5))
theorem r_law_6_e : r_law_6 = (mSeq (mSet 8 (mMeth "str" gJoin (mC (.str "\n")) (mCons (mVar 5) mNil)))
  r_law_5) := shut_eq _
noncomputable def r_law_7 : MS := shut ((mSeq (mFor (iS (mVar 4)) (gTg (.tp [(.nm 6), (.nm 7)])) f_law_1)
  r_law_6))
theorem r_law_7_e : r_law_7 = (mSeq (mFor (iS (mVar 4)) (gTg (.tp [(.nm 6), (.nm 7)])) f_law_1)
  r_law_6) := shut_eq _
noncomputable def r_law_8 : MS := shut ((mSeq (mSet 5 (mLstO (mCons (mOp fAdd (mC (.str "goods ")) (mCall gStr (mCons (mVar 3) mNil))) mNil)))
  r_law_7))
theorem r_law_8_e : r_law_8 = (mSeq (mSet 5 (mLstO (mCons (mOp fAdd (mC (.str "goods ")) (mCall gStr (mCons (mVar 3) mNil))) mNil)))
  r_law_7) := shut_eq _
noncomputable def f_law_3 : MS := shut ((mSeq (mAsg (mCallF 1 m__law_any_market (mCons (mVar 1) mNil)) (gTg (.tp [(.nm 3), (.nm 4)])))
  r_law_8))
theorem f_law_3_e : f_law_3 = (mSeq (mAsg (mCallF 1 m__law_any_market (mCons (mVar 1) mNil)) (gTg (.tp [(.nm 3), (.nm 4)])))
  r_law_8) := shut_eq _
noncomputable def r_law_9 : MS := shut ((mRet (mC (.bl true))))
theorem r_law_9_e : r_law_9 = (mRet (mC (.bl true))) := shut_eq _
noncomputable def r_law_10 : MS := shut ((mSeq (mFor (iR1 (mCons (mC (.int 8)) mNil)) (gTg (.nm 2)) f_law_3)
  r_law_9))
theorem r_law_10_e : r_law_10 = (mSeq (mFor (iR1 (mCons (mC (.int 8)) mNil)) (gTg (.nm 2)) f_law_3)
  r_law_9) := shut_eq _
noncomputable def b_law : MS := shut ((mSeq (mSet 1 (mCallF 1 m__law_deck (mCons (mVar 0) mNil)))
  r_law_10))
theorem b_law_e : b_law = (mSeq (mSet 1 (mCallF 1 m__law_deck (mCons (mVar 0) mNil)))
  r_law_10) := shut_eq _
noncomputable def m_law : GX := shut (mBody 13 b_law)
theorem m_law_e : m_law = mBody 13 b_law := shut_eq _
def N__law_deck : List Str := ["_law_script", "_law_cells", "_law_cell"]
def P__law_deck : List Str := ["_law_script"]
theorem sc__law_deck : FnScope N__law_deck P__law_deck (defScope (top 14)) := ⟨rfl, rfl, rfl, by decide +kernel, rfl, by decide +kernel, by decide +kernel⟩
def N__law_draw : List Str := ["_law_deck_here", "_law_many", "_law_cells", "_law_turn", "_law_rests", "_law_at", "_law_digit", "_law_mixed", "_law_again"]
def P__law_draw : List Str := ["_law_deck_here", "_law_many"]
theorem sc__law_draw : FnScope N__law_draw P__law_draw (defScope (top 15)) := ⟨rfl, rfl, rfl, by decide +kernel, rfl, by decide +kernel, by decide +kernel⟩
def N__law_one : List Str := ["_law_deck_here", "_law_items"]
def P__law_one : List Str := ["_law_deck_here", "_law_items"]
theorem sc__law_one : FnScope N__law_one P__law_one (defScope (top 16)) := ⟨rfl, rfl, rfl, by decide +kernel, rfl, by decide +kernel, by decide +kernel⟩
def N__law_side : List Str := ["_law_deck_here", "_law_goods", "_law_most", "_law_row", "_law_k", "_law_at"]
def P__law_side : List Str := ["_law_deck_here", "_law_goods", "_law_most"]
theorem sc__law_side : FnScope N__law_side P__law_side (defScope (top 17)) := ⟨rfl, rfl, rfl, by decide +kernel, rfl, by decide +kernel, by decide +kernel⟩
def N__law_plus : List Str := ["_law_one_here", "_law_other_here", "_law_own", "_law_more"]
def P__law_plus : List Str := ["_law_one_here", "_law_other_here"]
theorem sc__law_plus : FnScope N__law_plus P__law_plus (defScope (top 21)) := ⟨rfl, rfl, rfl, by decide +kernel, rfl, by decide +kernel, by decide +kernel⟩
def N__law_trade : List Str := ["_law_deck_here", "_law_goods", "_law_most", "_law_at", "_law_many", "_law_beside", "_law_one_here", "_law_other_here", "_law_good"]
def P__law_trade : List Str := ["_law_deck_here", "_law_goods", "_law_most"]
theorem sc__law_trade : FnScope N__law_trade P__law_trade (defScope (top 18)) := ⟨rfl, rfl, rfl, by decide +kernel, rfl, by decide +kernel, by decide +kernel⟩
def N__law_market : List Str := ["_law_deck_here", "_law_goods", "_law_trades", "_law_most", "_law_k"]
def P__law_market : List Str := ["_law_deck_here", "_law_goods", "_law_trades", "_law_most"]
theorem sc__law_market : FnScope N__law_market P__law_market (defScope (top 19)) := ⟨rfl, rfl, rfl, by decide +kernel, rfl, by decide +kernel, by decide +kernel⟩
def N__law_any_market : List Str := ["_law_deck_here", "_law_goods"]
def P__law_any_market : List Str := ["_law_deck_here"]
theorem sc__law_any_market : FnScope N__law_any_market P__law_any_market (defScope (top 20)) := ⟨rfl, rfl, rfl, by decide +kernel, rfl, by decide +kernel, by decide +kernel⟩
def N_read_goods : List Str := ["line", "goods"]
def P_read_goods : List Str := ["line"]
theorem sc_read_goods : FnScope N_read_goods P_read_goods (defScope (top 9)) := ⟨rfl, rfl, rfl, by decide +kernel, rfl, by decide +kernel, by decide +kernel⟩
def N_read_bag : List Str := ["words", "bag", "word"]
def P_read_bag : List Str := ["words"]
theorem sc_read_bag : FnScope N_read_bag P_read_bag (defScope (top 10)) := ⟨rfl, rfl, rfl, by decide +kernel, rfl, by decide +kernel, by decide +kernel⟩
def N_read_trade : List Str := ["line", "goods", "words", "give", "get"]
def P_read_trade : List Str := ["line", "goods"]
theorem sc_read_trade : FnScope N_read_trade P_read_trade (defScope (top 11)) := ⟨rfl, rfl, rfl, by decide +kernel, rfl, by decide +kernel, by decide +kernel⟩
def N_read_market : List Str := ["value", "lines", "goods", "trades", "index", "line", "trade"]
def P_read_market : List Str := ["value"]
theorem sc_read_market : FnScope N_read_market P_read_market (defScope (top 12)) := ⟨rfl, rfl, rfl, by decide +kernel, rfl, by decide +kernel, by decide +kernel⟩
def N__law_found : List Str := ["_law_value", "e"]
def P__law_found : List Str := ["_law_value"]
theorem sc__law_found : FnScope N__law_found P__law_found (defScope (top 22)) := ⟨rfl, rfl, rfl, by decide +kernel, rfl, by decide +kernel, by decide +kernel⟩
def N__law_bag_in : List Str := ["_law_words", "_law_goods", "_law_bag", "_law_word"]
def P__law_bag_in : List Str := ["_law_words", "_law_goods"]
theorem sc__law_bag_in : FnScope N__law_bag_in P__law_bag_in (defScope (top 23)) := ⟨rfl, rfl, rfl, by decide +kernel, rfl, by decide +kernel, by decide +kernel⟩
def N__law_due : List Str := ["_law_text", "_law_lines", "_law_trades", "_law_goods", "_law_index", "_law_words", "_law_give", "_law_get"]
def P__law_due : List Str := ["_law_text"]
theorem sc__law_due : FnScope N__law_due P__law_due (defScope (top 24)) := ⟨rfl, rfl, rfl, by decide +kernel, rfl, by decide +kernel, by decide +kernel⟩
def N__law_other : List Str := ["_law_deck_here", "_law_text", "_law_at", "_law_way", "_law_sign", "_law_lines", "_law_k", "_law_more"]
def P__law_other : List Str := ["_law_deck_here", "_law_text"]
theorem sc__law_other : FnScope N__law_other P__law_other (defScope (top 25)) := ⟨rfl, rfl, rfl, by decide +kernel, rfl, by decide +kernel, by decide +kernel⟩
def N_law : List Str := ["_law_script", "_law_deck_here", "_law_turn", "_law_goods", "_law_trades", "_law_lines", "_law_give", "_law_get", "_law_text", "_law_other_here", "_law_k", "_law_value", "_law_own"]
def P_law : List Str := ["_law_script"]
theorem sc_law : FnScope N_law P_law (defScope (top 26)) := ⟨rfl, rfl, rfl, by decide +kernel, rfl, by decide +kernel, by decide +kernel⟩
structure Z (K : PySem.W.Frag) (mg : Str → Option Value) : Prop where
  fn__law_deck : ∃ f fd, mg "_law_deck" = some (.ref f) ∧ FunD K "_law_deck" "_law_deck" (defArgs (top 14)) (defBody (top 14)) (defScope (top 14)) [] [] f fd
  fn__law_draw : ∃ f fd, mg "_law_draw" = some (.ref f) ∧ FunD K "_law_draw" "_law_draw" (defArgs (top 15)) (defBody (top 15)) (defScope (top 15)) [] [] f fd
  fn__law_one : ∃ f fd, mg "_law_one" = some (.ref f) ∧ FunD K "_law_one" "_law_one" (defArgs (top 16)) (defBody (top 16)) (defScope (top 16)) [] [] f fd
  fn__law_side : ∃ f fd, mg "_law_side" = some (.ref f) ∧ FunD K "_law_side" "_law_side" (defArgs (top 17)) (defBody (top 17)) (defScope (top 17)) [] [] f fd
  fn__law_plus : ∃ f fd, mg "_law_plus" = some (.ref f) ∧ FunD K "_law_plus" "_law_plus" (defArgs (top 21)) (defBody (top 21)) (defScope (top 21)) [] [] f fd
  fn__law_trade : ∃ f fd, mg "_law_trade" = some (.ref f) ∧ FunD K "_law_trade" "_law_trade" (defArgs (top 18)) (defBody (top 18)) (defScope (top 18)) [] [] f fd
  fn__law_market : ∃ f fd, mg "_law_market" = some (.ref f) ∧ FunD K "_law_market" "_law_market" (defArgs (top 19)) (defBody (top 19)) (defScope (top 19)) [] [] f fd
  fn__law_any_market : ∃ f fd, mg "_law_any_market" = some (.ref f) ∧ FunD K "_law_any_market" "_law_any_market" (defArgs (top 20)) (defBody (top 20)) (defScope (top 20)) [] [] f fd
  fn_read_goods : ∃ f fd, mg "read_goods" = some (.ref f) ∧ FunD K "read_goods" "read_goods" (defArgs (top 9)) (defBody (top 9)) (defScope (top 9)) [] [] f fd
  fn_read_bag : ∃ f fd, mg "read_bag" = some (.ref f) ∧ FunD K "read_bag" "read_bag" (defArgs (top 10)) (defBody (top 10)) (defScope (top 10)) [] [] f fd
  fn_read_trade : ∃ f fd, mg "read_trade" = some (.ref f) ∧ FunD K "read_trade" "read_trade" (defArgs (top 11)) (defBody (top 11)) (defScope (top 11)) [] [] f fd
  fn_read_market : ∃ f fd, mg "read_market" = some (.ref f) ∧ FunD K "read_market" "read_market" (defArgs (top 12)) (defBody (top 12)) (defScope (top 12)) [] [] f fd
  fn__law_found : ∃ f fd, mg "_law_found" = some (.ref f) ∧ FunD K "_law_found" "_law_found" (defArgs (top 22)) (defBody (top 22)) (defScope (top 22)) [] [] f fd
  fn__law_bag_in : ∃ f fd, mg "_law_bag_in" = some (.ref f) ∧ FunD K "_law_bag_in" "_law_bag_in" (defArgs (top 23)) (defBody (top 23)) (defScope (top 23)) [] [] f fd
  fn__law_due : ∃ f fd, mg "_law_due" = some (.ref f) ∧ FunD K "_law_due" "_law_due" (defArgs (top 24)) (defBody (top 24)) (defScope (top 24)) [] [] f fd
  fn__law_other : ∃ f fd, mg "_law_other" = some (.ref f) ∧ FunD K "_law_other" "_law_other" (defArgs (top 25)) (defBody (top 25)) (defScope (top 25)) [] [] f fd
  fn_law : ∃ f fd, mg "law" = some (.ref f) ∧ FunD K "law" "law" (defArgs (top 26)) (defBody (top 26)) (defScope (top 26)) [] [] f fd
  free_enumerate : mg "enumerate" = none
  free_int : mg "int" = none
  free_isinstance : mg "isinstance" = none
  free_len : mg "len" = none
  free_list : mg "list" = none
  free_max : mg "max" = none
  free_range : mg "range" = none
  free_repr : mg "repr" = none
  free_str : mg "str" = none
  free_sum : mg "sum" = none
  free_tuple : mg "tuple" = none
  free_zip : mg "zip" = none
  int_DIGITS : ∃ t, mg "DIGITS" = some (.str "01234" t)
  int_MAX_AMOUNT : ∃ t, mg "MAX_AMOUNT" = some (.int 3 t)
  int_MAX_GOODS : ∃ t, mg "MAX_GOODS" = some (.int 4 t)
  int_MAX_TOTAL : ∃ t, mg "MAX_TOTAL" = some (.int 4 t)
  int_MAX_TRADES : ∃ t, mg "MAX_TRADES" = some (.int 4 t)
  exc_BadText : ExcF K mg "BadText" "line"
  exm_BadText_BadText : PySem.W.exmOne K (.ref (He.ga K "BadText")) (.ref (He.ga K "BadText")) = some (decide (("BadText" : Str) = "BadText"))
section
variable {w : World} {K : PySem.W.Frag} {mg : Str → Option Value} {base : Heap}
theorem cal__law_deck (z : Z K mg) : Cal pw w K mg base CX0 1 "_law_deck" 1 m__law_deck := by
  rw [m__law_deck_e, b__law_deck_e, r__law_deck_1_e]
  obtain ⟨f, fd, hm, F⟩ := z.fn__law_deck
  refine ⟨f, fd, P__law_deck, hm, F.kp, F.bindsN (fun _ _ _ _ _ _ us hl => match us, hl with | [_], _ => rfl), rfl, fnG_of (k := 0) F sc__law_deck fun cdv A outer s H E hx tk => ?_⟩
  exact ((d_bcons (d_set (sc__law_deck).nd (d_op opd_add (d_callT cd_list rfl z.free_list (by decide +kernel) (d_cons (d_sl d_var d_pn (d_ps d_int)) d_nil)) (d_op opd_mul (d_lst (d_cons d_int d_nil)) (d_callT cd_int rfl z.free_int (by decide +kernel) (d_cons (d_cmp (opd_eq hx.hu) (d_callB cd_len rfl z.free_len (by decide +kernel) (d_cons d_var d_nil)) d_int (by rfl)) d_nil)))))
    (d_bone (d_ret (d_lstO (d_cons d_var (d_cons d_int (d_cons (d_lcO (own := [("_law_cell", 2)]) rfl (sc__law_deck).nd (di_seq d_var) (blkOk_by (N := N__law_deck) (sc := (defScope (top 14))) (own := [("_law_cell", 2)]) (by decide +kernel)) (by decide) (fun _ _ _ _ _ => (dg_nm (sc__law_deck).nd)) (fun _ _ _ _ _ => d_yes) (fun _ _ _ _ _ => (d_op opd_mul d_var (d_callT cd_int rfl z.free_int (by decide +kernel) (d_cons (d_cmp opd_ge d_var (d_op opd_pow d_int d_int) (by rfl)) d_nil))))) d_nil))))))))
theorem cal__law_draw (z : Z K mg) : Cal pw w K mg base CX0 1 "_law_draw" 2 m__law_draw := by
  rw [m__law_draw_e, b__law_draw_e, r__law_draw_8_e, r__law_draw_7_e, r__law_draw_6_e, r__law_draw_2_e, r__law_draw_1_e, r__law_draw_5_e, r__law_draw_4_e, r__law_draw_3_e]
  obtain ⟨f, fd, hm, F⟩ := z.fn__law_draw
  refine ⟨f, fd, P__law_draw, hm, F.kp, F.bindsN (fun _ _ _ _ _ _ us hl => match us, hl with | [_, _], _ => rfl), rfl, fnG_of (k := 0) F sc__law_draw fun cdv A outer s H E hx tk => ?_⟩
  exact ((d_bcons (d_asg d_var (dg_unL rfl (dg_cons (dg_nm (sc__law_draw).nd) (dg_cons (dg_nm (sc__law_draw).nd) (dg_cons (dg_nm (sc__law_draw).nd) dg_nil)))))
    (d_bcons (d_set (sc__law_draw).nd (d_op opd_mod (d_callT cd_int rfl z.free_int (by decide +kernel) (d_cons d_var d_nil)) (d_callB cd_len rfl z.free_len (by decide +kernel) (d_cons d_var d_nil))))
    (d_bcons (d_asg (d_op opd_add d_var d_int) (dg_setL d_var d_int))
    (d_bcons (d_if (d_testC opd_gt (d_ix d_var d_var) d_int (by rfl)) (d_bcons (d_set (sc__law_draw).nd (d_op opd_mod (d_callT cd_int rfl z.free_int (by decide +kernel) (d_cons (d_ix d_var d_var) d_nil)) d_var))
    (d_bcons (d_asg (d_op opd_div (d_ix d_var d_var) d_var) (dg_setL d_var d_var))
    (d_bone (d_ret d_var)))) d_bnil)
    (d_bcons (d_set (sc__law_draw).nd (d_op opd_mod (d_op opd_pow (d_op opd_add (d_op opd_add (d_op opd_mod (d_callT cd_int rfl z.free_int (by decide +kernel) (d_cons (d_ix d_var d_var) d_nil)) d_int) (d_op opd_mul d_int d_var)) d_int) d_int) d_int))
    (d_bcons (d_set (sc__law_draw).nd (d_op opd_mod (d_op opd_pow (d_op opd_add (d_op opd_add d_var (d_op opd_mul d_int d_var)) d_int) d_int) d_int))
    (d_bone (d_ret (d_op opd_mod (d_op opd_mod (d_callT cd_int rfl z.free_int (by decide +kernel) (d_cons (d_op opd_add (d_op opd_mul d_var d_int) d_var) d_nil)) d_int) d_var))))))))))
theorem cal__law_one (z : Z K mg) : Cal pw w K mg base CX0 2 "_law_one" 2 m__law_one := by
  rw [m__law_one_e, b__law_one_e]
  obtain ⟨f, fd, hm, F⟩ := z.fn__law_one
  refine ⟨f, fd, P__law_one, hm, F.kp, F.bindsN (fun _ _ _ _ _ _ us hl => match us, hl with | [_, _], _ => rfl), rfl, fnG_of (k := 1) F sc__law_one fun cdv A outer s H E hx tk => ?_⟩
  exact ((d_bone (d_ret (d_ix d_var (d_call (cal__law_draw z) hx (by decide) rfl (d_cons d_var (d_cons (d_callB cd_len rfl z.free_len (by decide +kernel) (d_cons d_var d_nil)) d_nil)))))))
theorem cal__law_side (z : Z K mg) : Cal pw w K mg base CX0 2 "_law_side" 3 m__law_side := by
  rw [m__law_side_e, b__law_side_e, r__law_side_3_e, f__law_side_1_e, r__law_side_1_e, r__law_side_2_e]
  obtain ⟨f, fd, hm, F⟩ := z.fn__law_side
  refine ⟨f, fd, P__law_side, hm, F.kp, F.bindsN (fun _ _ _ _ _ _ us hl => match us, hl with | [_, _, _], _ => rfl), rfl, fnG_of (k := 1) F sc__law_side fun cdv A outer s H E hx tk => ?_⟩
  exact ((d_bcons (d_set (sc__law_side).nd (d_op opd_mulO (d_lst (d_cons d_int d_nil)) d_var))
    (d_bcons (d_for hx.pass rfl (di_r1 rfl z.free_range (d_cons (d_call (cal__law_draw z) hx (by decide) rfl (d_cons d_var (d_cons (d_op opd_add d_var d_int) d_nil))) d_nil)) (dg_of (dg_nm (sc__law_side).nd)) (d_bcons (d_set (sc__law_side).nd (d_call (cal__law_draw z) hx (by decide) rfl (d_cons d_var (d_cons d_var d_nil))))
    (d_bone (d_asg (d_op opd_add (d_ix d_var d_var) (d_callT cd_int rfl z.free_int (by decide +kernel) (d_cons (d_cmp (opd_lt hx.hu) (d_ix d_var d_var) d_int (by rfl)) d_nil))) (dg_setL d_var d_var)))))
    (d_bone (d_ret (d_callT cd_tuple rfl z.free_tuple (by decide +kernel) (d_cons d_var d_nil)))))))
theorem cal__law_plus (z : Z K mg) : Cal pw w K mg base CX0 1 "_law_plus" 2 m__law_plus := by
  rw [m__law_plus_e, b__law_plus_e]
  obtain ⟨f, fd, hm, F⟩ := z.fn__law_plus
  refine ⟨f, fd, P__law_plus, hm, F.kp, F.bindsN (fun _ _ _ _ _ _ us hl => match us, hl with | [_, _], _ => rfl), rfl, fnG_of (k := 0) F sc__law_plus fun cdv A outer s H E hx tk => ?_⟩
  exact ((d_bone (d_ret (d_callT cd_tuple rfl z.free_tuple (by decide +kernel) (d_cons (d_lc (own := [("_law_own", 2), ("_law_more", 3)]) rfl (sc__law_plus).nd (di_z rfl z.free_zip (d_cons d_var (d_cons d_var d_nil))) (blkOk_by (N := N__law_plus) (sc := (defScope (top 21))) (own := [("_law_own", 2), ("_law_more", 3)]) (by decide +kernel)) (by decide) (fun _ _ _ _ _ => (dg_tp rfl (dg_cons (dg_nm (sc__law_plus).nd) (dg_cons (dg_nm (sc__law_plus).nd) dg_nil)))) (fun _ _ _ _ _ => d_yes) (fun _ _ _ _ _ => (d_op opd_add d_var d_var))) d_nil)))))
theorem cal__law_trade (z : Z K mg) : Cal pw w K mg base CX0 3 "_law_trade" 3 m__law_trade := by
  rw [m__law_trade_e, b__law_trade_e, r__law_trade_4_e, r__law_trade_3_e, r__law_trade_2_e, r__law_trade_1_e]
  obtain ⟨f, fd, hm, F⟩ := z.fn__law_trade
  refine ⟨f, fd, P__law_trade, hm, F.kp, F.bindsN (fun _ _ _ _ _ _ us hl => match us, hl with | [_, _, _], _ => rfl), rfl, fnG_of (k := 2) F sc__law_trade fun cdv A outer s H E hx tk => ?_⟩
  exact ((d_bcons (d_if (d_pt (d_or (d_testC (opd_lt hx.hu) d_var d_int (by rfl)) (d_or1 (d_testC (opd_eq hx.hu) (d_call (cal__law_draw z) hx (by decide) rfl (d_cons d_var (d_cons d_int d_nil))) d_int (by rfl))))) (d_bone (d_ret (d_tup (d_cons (d_call (cal__law_side z) hx (by decide) rfl (d_cons d_var (d_cons d_var (d_cons d_var d_nil)))) (d_cons (d_call (cal__law_side z) hx (by decide) rfl (d_cons d_var (d_cons d_var (d_cons d_var d_nil)))) d_nil))))) d_bnil)
    (d_bcons (d_asg (d_tup (d_cons (d_call (cal__law_draw z) hx (by decide) rfl (d_cons d_var (d_cons d_var d_nil))) (d_cons (d_op opd_add d_int (d_call (cal__law_draw z) hx (by decide) rfl (d_cons d_var (d_cons (d_op opd_sub d_var d_int) d_nil)))) d_nil))) (dg_of (dg_tp rfl (dg_cons (dg_nm (sc__law_trade).nd) (dg_cons (dg_nm (sc__law_trade).nd) dg_nil)))))
    (d_bcons (d_set (sc__law_trade).nd (d_callT cd_tuple rfl z.free_tuple (by decide +kernel) (d_cons (d_lc (own := [("_law_good", 8)]) rfl (sc__law_trade).nd (di_r1 rfl z.free_range (d_cons d_var d_nil)) (blkOk_by (N := N__law_trade) (sc := (defScope (top 18))) (own := [("_law_good", 8)]) (by decide +kernel)) (by decide) (fun _ _ _ _ _ => (dg_nm (sc__law_trade).nd)) (fun _ _ _ _ _ => d_yes) (fun _ _ _ _ _ => (d_op opd_mul d_var (d_callT cd_int rfl z.free_int (by decide +kernel) (d_cons (d_cmp (opd_eq (XC.blk hx _ _ _ _ _).hu) d_var d_var (by rfl)) d_nil))))) d_nil)))
    (d_bcons (d_par2 hx.calm (sc__law_trade).nd (d_cons (d_call (cal__law_side z) hx (by decide) rfl (d_cons d_var (d_cons d_var (d_cons d_int d_nil)))) (d_cons (d_call (cal__law_side z) hx (by decide) rfl (d_cons d_var (d_cons d_var (d_cons d_int d_nil)))) d_nil)))
    (d_bone (d_ret (d_ifExp (d_testC (opd_lt hx.hu) d_var d_int (by rfl)) (d_tup (d_cons (d_call (cal__law_plus z) hx (by decide) rfl (d_cons d_var (d_cons d_var d_nil))) (d_cons (d_call (cal__law_plus z) hx (by decide) rfl (d_cons d_var (d_cons d_var d_nil))) d_nil))) (d_tup (d_cons (d_call (cal__law_plus z) hx (by decide) rfl (d_cons d_var (d_cons d_var d_nil))) (d_cons d_var d_nil)))))))))))
theorem cal__law_market (z : Z K mg) : Cal pw w K mg base CX0 4 "_law_market" 4 m__law_market := by
  rw [m__law_market_e, b__law_market_e]
  obtain ⟨f, fd, hm, F⟩ := z.fn__law_market
  refine ⟨f, fd, P__law_market, hm, F.kp, F.bindsN (fun _ _ _ _ _ _ us hl => match us, hl with | [_, _, _, _], _ => rfl), rfl, fnG_of (k := 3) F sc__law_market fun cdv A outer s H E hx tk => ?_⟩
  exact ((d_bone (d_ret (d_tup (d_cons d_var (d_cons (d_callT cd_tuple rfl z.free_tuple (by decide +kernel) (d_cons (d_lc (own := [("_law_k", 4)]) rfl (sc__law_market).nd (di_r1 rfl z.free_range (d_cons (d_call (cal__law_draw z) hx (by decide) rfl (d_cons d_var (d_cons (d_op opd_add d_var d_int) d_nil))) d_nil)) (blkOk_by (N := N__law_market) (sc := (defScope (top 19))) (own := [("_law_k", 4)]) (by decide +kernel)) (by decide) (fun _ _ _ _ _ => (dg_nm (sc__law_market).nd)) (fun _ _ _ _ _ => d_yes) (fun _ _ _ _ _ => (d_call (cal__law_trade z) (XC.blk hx _ _ _ _ _) (by decide) rfl (d_cons d_var (d_cons d_var (d_cons d_var d_nil)))))) d_nil)) d_nil))))))
theorem cal__law_any_market (z : Z K mg) : Cal pw w K mg base CX0 5 "_law_any_market" 1 m__law_any_market := by
  rw [m__law_any_market_e, b__law_any_market_e, r__law_any_market_1_e]
  obtain ⟨f, fd, hm, F⟩ := z.fn__law_any_market
  refine ⟨f, fd, P__law_any_market, hm, F.kp, F.bindsN (fun _ _ _ _ _ _ us hl => match us, hl with | [_], _ => rfl), rfl, fnG_of (k := 4) F sc__law_any_market fun cdv A outer s H E hx tk => ?_⟩
  exact ((d_bcons (d_set (sc__law_any_market).nd (d_op opd_add d_int (d_call (cal__law_draw z) hx (by decide) rfl (d_cons d_var (d_cons d_int d_nil)))))
    (d_bone (d_ret (d_call (cal__law_market z) hx (by decide) rfl (d_cons d_var (d_cons d_var (d_cons (d_ifExp (d_testC (opd_lt hx.hu) d_var d_int (by rfl)) d_int (d_op opd_sub d_int d_var)) (d_cons (d_ifExp (d_testC (opd_lt hx.hu) d_var d_int (by rfl)) d_int d_int) d_nil)))))))))
theorem cal_read_goods (z : Z K mg) : Cal pw w K mg base CX0 1 "read_goods" 1 m_read_goods := by
  rw [m_read_goods_e, b_read_goods_e, f_read_goods_1_e, r_read_goods_1_e]
  obtain ⟨f, fd, hm, F⟩ := z.fn_read_goods
  refine ⟨f, fd, P_read_goods, hm, F.kp, F.bindsN (fun _ _ _ _ _ _ us hl => match us, hl with | [_], _ => rfl), rfl, fnG_of (k := 0) F sc_read_goods fun cdv A outer s H E hx tk => ?_⟩
  exact ((d_bcons (d_for hx.pass rfl (di_r2 rfl z.free_range (d_cons d_int (d_cons (d_op opd_add (d_glo z.int_MAX_GOODS rfl) d_int) d_nil))) (dg_of (dg_nm (sc_read_goods).nd)) (d_bone (d_if (d_testC (opd_eq hx.hu) d_var (d_op opd_add d_str (d_callT cd_str rfl z.free_str (by decide +kernel) (d_cons d_var d_nil))) (by rfl)) (d_bone (d_ret d_var)) d_bnil)))
    (d_bone (d_ret d_int))))
theorem cal_read_bag (z : Z K mg) : Cal pw w K mg base CX0 1 "read_bag" 1 m_read_bag := by
  rw [m_read_bag_e, b_read_bag_e, r_read_bag_2_e, r_read_bag_1_e]
  obtain ⟨f, fd, hm, F⟩ := z.fn_read_bag
  refine ⟨f, fd, P_read_bag, hm, F.kp, F.bindsN (fun _ _ _ _ _ _ us hl => match us, hl with | [_], _ => rfl), rfl, fnG_of (k := 0) F sc_read_bag fun cdv A outer s H E hx tk => ?_⟩
  exact ((d_bcons (d_if (d_testC (opd_neN hx.hu) (d_lc (own := [("word", 2)]) rfl (sc_read_bag).nd (di_seq d_var) (blkOk_by (N := N_read_bag) (sc := (defScope (top 10))) (own := [("word", 2)]) (by decide +kernel)) (by decide) (fun _ _ _ _ _ => (dg_nm (sc_read_bag).nd)) (fun _ _ _ _ _ => (d_ifs (d_pt (d_or (d_testC (opd_ne (XC.blk hx _ _ _ _ _).hu) (d_callB cd_len rfl z.free_len (by decide +kernel) (d_cons d_var d_nil)) d_int (by rfl)) (d_or1 (d_testC opd_notInS d_var (d_gloS z.int_DIGITS rfl) (by rfl))))))) (fun _ _ _ _ _ => d_var)) (d_lst d_nil) (by rfl)) (d_bone (d_ret d_non)) d_bnil)
    (d_bcons (d_set (sc_read_bag).nd (d_callT cd_tuple rfl z.free_tuple (by decide +kernel) (d_cons (d_lc (own := [("word", 2)]) rfl (sc_read_bag).nd (di_seq d_var) (blkOk_by (N := N_read_bag) (sc := (defScope (top 10))) (own := [("word", 2)]) (by decide +kernel)) (by decide) (fun _ _ _ _ _ => (dg_nm (sc_read_bag).nd)) (fun _ _ _ _ _ => d_yes) (fun _ _ _ _ _ => (d_callT cd_intS rfl z.free_int (by decide +kernel) (d_cons d_var d_nil)))) d_nil)))
    (d_bone (d_ret (d_ifExp (d_pt (d_and (d_testC opd_le (d_callB (cd_maxT hx.calm) rfl z.free_max (by decide +kernel) (d_cons d_var d_nil)) (d_glo z.int_MAX_AMOUNT rfl) (by rfl)) (d_and1 (d_testC opd_le (d_callB (cd_sum hx.calm) rfl z.free_sum (by decide +kernel) (d_cons d_var d_nil)) (d_glo z.int_MAX_TOTAL rfl) (by rfl))))) d_var d_non))))))
theorem cal_read_trade (z : Z K mg) : Cal pw w K mg base CX0 2 "read_trade" 2 m_read_trade := by
  rw [m_read_trade_e, b_read_trade_e, r_read_trade_3_e, r_read_trade_2_e, r_read_trade_1_e]
  obtain ⟨f, fd, hm, F⟩ := z.fn_read_trade
  refine ⟨f, fd, P_read_trade, hm, F.kp, F.bindsN (fun _ _ _ _ _ _ us hl => match us, hl with | [_, _], _ => rfl), rfl, fnG_of (k := 1) F sc_read_trade fun cdv A outer s H E hx tk => ?_⟩
  exact ((d_bcons (d_set (sc_read_trade).nd (d_bm PySem.F.plainAttrs_str PySem.F.slot_str_split PySem.F.type_str_split mtd_split d_var (d_cons d_str d_nil)))
    (d_bcons (d_if (d_pt (d_or (d_testC (opd_ne hx.hu) (d_callB cd_len rfl z.free_len (by decide +kernel) (d_cons d_var d_nil)) (d_op opd_add (d_op opd_mul d_int d_var) d_int) (by rfl)) (d_or1 (d_testC (opd_ne hx.hu) (d_ix d_var d_var) d_str (by rfl))))) (d_bone (d_ret d_non)) d_bnil)
    (d_bcons (d_par2 hx.calm (sc_read_trade).nd (d_cons (d_call (cal_read_bag z) hx (by decide) rfl (d_cons (d_sl d_var d_pn (d_ps d_var)) d_nil)) (d_cons (d_call (cal_read_bag z) hx (by decide) rfl (d_cons (d_sl d_var (d_ps (d_op opd_add d_var d_int)) d_pn) d_nil)) d_nil)))
    (d_bone (d_ret (d_ifExp (d_pt (d_or (d_testC opd_is d_var d_non (by rfl)) (d_or1 (d_testC opd_is d_var d_non (by rfl))))) d_non (d_tup (d_cons d_var (d_cons d_var d_nil))))))))))
theorem cal_read_market (z : Z K mg) : Cal pw w K mg base (L2.CX pw w) 3 "read_market" 1 m_read_market := by
  rw [m_read_market_e, b_read_market_e, r_read_market_7_e, r_read_market_6_e, r_read_market_5_e, r_read_market_4_e, f_read_market_1_e, r_read_market_2_e, r_read_market_1_e, r_read_market_3_e]
  obtain ⟨f, fd, hm, F⟩ := z.fn_read_market
  refine ⟨f, fd, P_read_market, hm, F.kp, F.bindsN (fun _ _ _ _ _ _ us hl => match us, hl with | [_], _ => rfl), rfl, fnG_of (k := 2) F sc_read_market fun cdv A outer s H E hx tk => ?_⟩
  exact ((d_bcons (d_if (d_not (d_test (d_callB cd_isi rfl z.free_isinstance (by decide +kernel) (d_cons d_var (d_cons (d_ty rfl z.free_str (by decide +kernel)) d_nil))))) (d_bone (d_raise1 z.exc_BadText hx.calm hx.room (tk rfl) (d_cons d_non d_nil))) d_bnil)
    (d_bcons (d_set (sc_read_market).nd (d_bm PySem.F.plainAttrs_str PySem.F.slot_str_split PySem.F.type_str_split mtd_split d_var (d_cons d_str d_nil)))
    (d_bcons (d_par2 hx.calm (sc_read_market).nd (d_cons (d_call (cal_read_goods z) hx (by decide) rfl (d_cons (d_ix d_var d_int) d_nil)) (d_cons (d_lstO d_nil) d_nil)))
    (d_bcons (d_if (d_testC (opd_eq hx.hu) d_var d_int (by rfl)) (d_bone (d_raise1 z.exc_BadText hx.calm hx.room (tk rfl) (d_cons d_int d_nil))) d_bnil)
    (d_bcons (d_for hx.pass rfl (di_enum rfl z.free_enumerate (d_cons (d_sl d_var (d_ps d_int) d_pn) d_nil)) (dg_of (dg_tp rfl (dg_cons (dg_nm (sc_read_market).nd) (dg_cons (dg_nm (sc_read_market).nd) dg_nil)))) (d_bcons (d_set (sc_read_market).nd (d_call (cal_read_trade z) hx (by decide) rfl (d_cons d_var (d_cons d_var d_nil))))
    (d_bcons (d_if (d_pt (d_or (d_testC opd_is d_var d_non (by rfl)) (d_or1 (d_testC (opd_eq hx.hu) d_var (d_glo z.int_MAX_TRADES rfl) (by rfl))))) (d_bone (d_raise1 z.exc_BadText hx.calm hx.room (tk rfl) (d_cons (d_op opd_add d_var d_int) d_nil))) d_bnil)
    (d_bone (d_expr (d_bm PySem.F.plainAttrs_list PySem.F.slot_list_append PySem.F.type_list_append mtd_append d_var (d_cons d_var d_nil)))))))
    (d_bone (d_ret (d_tup (d_cons d_var (d_cons (d_callT cd_tuple rfl z.free_tuple (by decide +kernel) (d_cons d_var d_nil)) d_nil)))))))))))
theorem cal__law_found (z : Z K mg) : Cal pw w K mg base CX0 4 "_law_found" 1 m__law_found := by
  rw [m__law_found_e, b__law_found_e]
  obtain ⟨f, fd, hm, F⟩ := z.fn__law_found
  refine ⟨f, fd, P__law_found, hm, F.kp, F.bindsN (fun _ _ _ _ _ _ us hl => match us, hl with | [_], _ => rfl), rfl, fnG_of (k := 3) F sc__law_found fun cdv A outer s H E hx tk => ?_⟩
  exact ((d_bone (d_nox (d_tryL (i := 1) z.exc_BadText (sc__law_found).nd (by intro c hc; simp only [List.mem_cons, List.not_mem_nil, or_false] at hc; subst hc; exact z.exm_BadText_BadText) takesN (fun W2 pn xe tk2 pa => (d_bone (d_ret (d_lst (d_cons d_str (d_cons (d_callX (cal_read_market z) (XC.tr hx pa) (by decide) tk2 rfl (d_cons d_var d_nil)) d_nil))))))))))
theorem cal__law_bag_in (z : Z K mg) : Cal pw w K mg base CX0 1 "_law_bag_in" 2 m__law_bag_in := by
  rw [m__law_bag_in_e, b__law_bag_in_e, r__law_bag_in_2_e, r__law_bag_in_1_e]
  obtain ⟨f, fd, hm, F⟩ := z.fn__law_bag_in
  refine ⟨f, fd, P__law_bag_in, hm, F.kp, F.bindsN (fun _ _ _ _ _ _ us hl => match us, hl with | [_, _], _ => rfl), rfl, fnG_of (k := 0) F sc__law_bag_in fun cdv A outer s H E hx tk => ?_⟩
  exact ((d_bcons (d_if (d_pt (d_or (d_testC (opd_ne hx.hu) (d_callB cd_len rfl z.free_len (by decide +kernel) (d_cons d_var d_nil)) d_var (by rfl)) (d_or1 (d_testC (opd_neN hx.hu) (d_lc (own := [("_law_word", 3)]) rfl (sc__law_bag_in).nd (di_seq d_var) (blkOk_by (N := N__law_bag_in) (sc := (defScope (top 23))) (own := [("_law_word", 3)]) (by decide +kernel)) (by decide) (fun _ _ _ _ _ => (dg_nm (sc__law_bag_in).nd)) (fun _ _ _ _ _ => (d_ifs (d_testC (opd_notInL (XC.blk hx _ _ _ _ _).hu) d_var (d_lst (d_cons d_str (d_cons d_str (d_cons d_str (d_cons d_str d_nil))))) (by rfl)))) (fun _ _ _ _ _ => d_var)) (d_lst d_nil) (by rfl))))) (d_bone (d_ret d_non)) d_bnil)
    (d_bcons (d_set (sc__law_bag_in).nd (d_callT cd_tuple rfl z.free_tuple (by decide +kernel) (d_cons (d_lc (own := [("_law_word", 3)]) rfl (sc__law_bag_in).nd (di_seq d_var) (blkOk_by (N := N__law_bag_in) (sc := (defScope (top 23))) (own := [("_law_word", 3)]) (by decide +kernel)) (by decide) (fun _ _ _ _ _ => (dg_nm (sc__law_bag_in).nd)) (fun _ _ _ _ _ => d_yes) (fun _ _ _ _ _ => (d_bm PySem.F.plainAttrs_str PySem.F.slot_str_find PySem.F.type_str_find mtd_find d_str (d_cons d_var d_nil)))) d_nil)))
    (d_bone (d_ret (d_ifExp (d_testC opd_le (d_callB (cd_sum hx.calm) rfl z.free_sum (by decide +kernel) (d_cons d_var d_nil)) d_int (by rfl)) d_var d_non))))))
theorem cal__law_due (z : Z K mg) : Cal pw w K mg base CX0 2 "_law_due" 1 m__law_due := by
  rw [m__law_due_e, b__law_due_e, r__law_due_7_e, r__law_due_6_e, r__law_due_5_e, f__law_due_1_e, r__law_due_3_e, r__law_due_2_e, r__law_due_1_e, r__law_due_4_e]
  obtain ⟨f, fd, hm, F⟩ := z.fn__law_due
  refine ⟨f, fd, P__law_due, hm, F.kp, F.bindsN (fun _ _ _ _ _ _ us hl => match us, hl with | [_], _ => rfl), rfl, fnG_of (k := 1) F sc__law_due fun cdv A outer s H E hx tk => ?_⟩
  exact ((d_bcons (d_par2 hx.calm (sc__law_due).nd (d_cons (d_bm PySem.F.plainAttrs_str PySem.F.slot_str_split PySem.F.type_str_split mtd_split d_var (d_cons d_str d_nil)) (d_cons (d_lstO d_nil) d_nil)))
    (d_bcons (d_if (d_testC (opd_notInL hx.hu) (d_ix d_var d_int) (d_lst (d_cons d_str (d_cons d_str (d_cons d_str (d_cons d_str d_nil))))) (by rfl)) (d_bone (d_ret (d_lst (d_cons d_str (d_cons d_int d_nil))))) d_bnil)
    (d_bcons (d_set (sc__law_due).nd (d_bm PySem.F.plainAttrs_str PySem.F.slot_str_find PySem.F.type_str_find mtd_find d_str (d_cons (d_ixS (d_ix d_var d_int) (d_un und_neg d_int)) d_nil)))
    (d_bcons (d_for hx.pass rfl (di_r2 rfl z.free_range (d_cons d_int (d_cons (d_callB cd_len rfl z.free_len (by decide +kernel) (d_cons d_var d_nil)) d_nil))) (dg_of (dg_nm (sc__law_due).nd)) (d_bcons (d_set (sc__law_due).nd (d_bm PySem.F.plainAttrs_str PySem.F.slot_str_split PySem.F.type_str_split mtd_split (d_ix d_var d_var) (d_cons d_str d_nil)))
    (d_bcons (d_par2 hx.calm (sc__law_due).nd (d_cons (d_call (cal__law_bag_in z) hx (by decide) rfl (d_cons (d_sl d_var d_pn (d_ps d_var)) (d_cons d_var d_nil))) (d_cons (d_call (cal__law_bag_in z) hx (by decide) rfl (d_cons (d_sl d_var (d_ps (d_op opd_add d_var d_int)) d_pn) (d_cons d_var d_nil))) d_nil)))
    (d_bcons (d_if (d_pt (d_or (d_testC opd_is d_var d_non (by rfl)) (d_or (d_testC opd_is d_var d_non (by rfl)) (d_or (d_testC (opd_ne hx.hu) (d_ix d_var d_var) d_str (by rfl)) (d_or1 (d_testC opd_gt d_var d_int (by rfl))))))) (d_bone (d_ret (d_lst (d_cons d_str (d_cons d_var d_nil))))) d_bnil)
    (d_bone (d_expr (d_bm PySem.F.plainAttrs_list PySem.F.slot_list_append PySem.F.type_list_append mtd_append d_var (d_cons (d_tup (d_cons d_var (d_cons d_var d_nil))) d_nil))))))))
    (d_bone (d_ret (d_lst (d_cons d_str (d_cons (d_tup (d_cons d_var (d_cons (d_callT cd_tuple rfl z.free_tuple (by decide +kernel) (d_cons d_var d_nil)) d_nil))) d_nil))))))))))
theorem cal__law_other (z : Z K mg) : Cal pw w K mg base CX0 3 "_law_other" 2 m__law_other := by
  rw [m__law_other_e, b__law_other_e, r__law_other_8_e, r__law_other_7_e, r__law_other_6_e, r__law_other_5_e, r__law_other_4_e, r__law_other_3_e, r__law_other_2_e, r__law_other_1_e]
  obtain ⟨f, fd, hm, F⟩ := z.fn__law_other
  refine ⟨f, fd, P__law_other, hm, F.kp, F.bindsN (fun _ _ _ _ _ _ us hl => match us, hl with | [_, _], _ => rfl), rfl, fnG_of (k := 2) F sc__law_other fun cdv A outer s H E hx tk => ?_⟩
  exact ((d_bcons (d_par2 hx.calm (sc__law_other).nd (d_cons (d_call (cal__law_draw z) hx (by decide) rfl (d_cons d_var (d_cons (d_op opd_add (d_callB cd_len rfl z.free_len (by decide +kernel) (d_cons d_var d_nil)) d_int) d_nil))) (d_cons (d_call (cal__law_draw z) hx (by decide) rfl (d_cons d_var (d_cons d_int d_nil))) d_nil)))
    (d_bcons (d_set (sc__law_other).nd (d_call (cal__law_one z) hx (by decide) rfl (d_cons d_var (d_cons (d_lst (d_cons d_str (d_cons d_str (d_cons d_str (d_cons d_str (d_cons d_str (d_cons d_str (d_cons d_str (d_cons d_str (d_cons d_str (d_cons d_str (d_cons d_str (d_cons d_str (d_cons d_str d_nil)))))))))))))) d_nil))))
    (d_bcons (d_if (d_testC (opd_lt hx.hu) d_var d_int (by rfl)) (d_bone (d_ret (d_op opd_add (d_op opd_add (d_slS d_var d_pn (d_ps d_var)) d_var) (d_slS d_var (d_ps d_var) d_pn)))) d_bnil)
    (d_bcons (d_if (d_testC (opd_lt hx.hu) d_var d_int (by rfl)) (d_bone (d_ret (d_ifExp (d_testC (opd_eq hx.hu) d_var d_int (by rfl)) (d_op opd_add (d_slS d_var d_pn (d_ps d_var)) (d_slS d_var (d_ps (d_op opd_add d_var d_int)) d_pn)) (d_op opd_add (d_op opd_add (d_slS d_var d_pn (d_ps d_var)) d_var) (d_slS d_var (d_ps (d_op opd_add d_var d_int)) d_pn))))) d_bnil)
    (d_bcons (d_set (sc__law_other).nd (d_bm PySem.F.plainAttrs_str PySem.F.slot_str_split PySem.F.type_str_split mtd_split d_var (d_cons d_str d_nil)))
    (d_bcons (d_set (sc__law_other).nd (d_call (cal__law_draw z) hx (by decide) rfl (d_cons d_var (d_cons (d_callB cd_len rfl z.free_len (by decide +kernel) (d_cons d_var d_nil)) d_nil))))
    (d_bcons (d_if (d_testC (opd_eq hx.hu) d_var d_int (by rfl)) (d_bone (d_ret (d_bm PySem.F.plainAttrs_str PySem.F.slot_str_join PySem.F.type_str_join mtd_join d_str (d_cons (d_op opd_add (d_sl d_var d_pn (d_ps d_var)) (d_sl d_var (d_ps (d_op opd_add d_var d_int)) d_pn)) d_nil)))) d_bnil)
    (d_bcons (d_set (sc__law_other).nd (d_call (cal__law_one z) hx (by decide) rfl (d_cons d_var (d_cons (d_lst (d_cons (d_ix d_var d_var) (d_cons d_str (d_cons d_str (d_cons d_str (d_cons d_str (d_cons d_str (d_cons d_str (d_cons d_str d_nil))))))))) d_nil))))
    (d_bone (d_ret (d_bm PySem.F.plainAttrs_str PySem.F.slot_str_join PySem.F.type_str_join mtd_join d_str (d_cons (d_op opd_add (d_op opd_add (d_sl d_var d_pn (d_ps (d_op opd_add d_var (d_callT cd_int rfl z.free_int (by decide +kernel) (d_cons (d_cmp (opd_eq hx.hu) d_var d_int (by rfl)) d_nil))))) (d_lst (d_cons d_var d_nil))) (d_sl d_var (d_ps (d_op opd_add d_var (d_callT cd_int rfl z.free_int (by decide +kernel) (d_cons (d_cmp (opd_eq hx.hu) d_var d_int (by rfl)) d_nil)))) d_pn)) d_nil)))))))))))))
theorem ok_law {f : Addr} {fd : FuncData} (F : FunD K "law" "law" (defArgs (top 26)) (defBody (top 26)) (defScope (top 26)) [] [] f fd) (z : Z K mg) : FnG pw w K mg base CX0 6 f fd P_law (spD K 1 m_law) := by
  rw [m_law_e, b_law_e, r_law_10_e, f_law_3_e, r_law_8_e, r_law_7_e, f_law_1_e, r_law_6_e, r_law_5_e, r_law_4_e, f_law_2_e, r_law_1_e, r_law_3_e, r_law_2_e, r_law_9_e]
  refine fnG_of (k := 5) F sc_law fun cdv A outer s H E hx tk => ?_
  exact ((d_bcons (d_set (sc_law).nd (d_call (cal__law_deck z) hx (by decide) rfl (d_cons d_var d_nil)))
    (d_bcons (d_for hx.pass rfl (di_r1 rfl z.free_range (d_cons d_int d_nil)) (dg_of (dg_nm (sc_law).nd)) (d_bcons (d_asg (d_call (cal__law_any_market z) hx (by decide) rfl (d_cons d_var d_nil)) (dg_of (dg_tp rfl (dg_cons (dg_nm (sc_law).nd) (dg_cons (dg_nm (sc_law).nd) dg_nil)))))
    (d_bcons (d_set (sc_law).nd (d_lstO (d_cons (d_op opd_add d_str (d_callT cd_str rfl z.free_str (by decide +kernel) (d_cons d_var d_nil))) d_nil)))
    (d_bcons (d_for hx.pass rfl (di_seq d_var) (dg_of (dg_tp rfl (dg_cons (dg_nm (sc_law).nd) (dg_cons (dg_nm (sc_law).nd) dg_nil)))) (d_bone (d_expr (d_bm PySem.F.plainAttrs_list PySem.F.slot_list_append PySem.F.type_list_append mtd_append d_var (d_cons (d_bm PySem.F.plainAttrs_str PySem.F.slot_str_join PySem.F.type_str_join mtd_join d_str (d_cons (d_op opd_add (d_op opd_add (d_lc (own := [("_law_own", 12)]) rfl (sc_law).nd (di_seq d_var) (blkOk_by (N := N_law) (sc := (defScope (top 26))) (own := [("_law_own", 12)]) (by decide +kernel)) (by decide) (fun _ _ _ _ _ => (dg_nm (sc_law).nd)) (fun _ _ _ _ _ => d_yes) (fun _ _ _ _ _ => (d_callT cd_str rfl z.free_str (by decide +kernel) (d_cons d_var d_nil)))) (d_lst (d_cons d_str d_nil))) (d_lc (own := [("_law_own", 12)]) rfl (sc_law).nd (di_seq d_var) (blkOk_by (N := N_law) (sc := (defScope (top 26))) (own := [("_law_own", 12)]) (by decide +kernel)) (by decide) (fun _ _ _ _ _ => (dg_nm (sc_law).nd)) (fun _ _ _ _ _ => d_yes) (fun _ _ _ _ _ => (d_callT cd_str rfl z.free_str (by decide +kernel) (d_cons d_var d_nil))))) d_nil)) d_nil)))))
    (d_bcons (d_set (sc_law).nd (d_bm PySem.F.plainAttrs_str PySem.F.slot_str_join PySem.F.type_str_join mtd_join d_str (d_cons d_var d_nil)))
    (d_bcons (d_set (sc_law).nd d_var)
    (d_bcons (d_for hx.pass rfl (di_r1 rfl z.free_range (d_cons d_int d_nil)) (dg_of (dg_nm (sc_law).nd)) (d_bcons (d_set (sc_law).nd (d_call (cal__law_other z) hx (by decide) rfl (d_cons d_var (d_cons (d_ifExp (d_testC (opd_lt hx.hu) d_var d_int (by rfl)) d_var d_var) d_nil))))
    (d_bone (d_if (d_testC (opd_ne hx.hu) (d_callB (cd_repr hx.guards hx.hu) rfl z.free_repr (by decide +kernel) (d_cons (d_call (cal__law_found z) hx (by decide) rfl (d_cons d_var d_nil)) d_nil)) (d_callB (cd_repr hx.guards hx.hu) rfl z.free_repr (by decide +kernel) (d_cons (d_call (cal__law_due z) hx (by decide) rfl (d_cons d_var d_nil)) d_nil)) (by rfl)) (d_bone (d_ret d_bl)) d_bnil))))
    (d_bcons (d_set (sc_law).nd (d_call (cal__law_one z) hx (by decide) rfl (d_cons d_var (d_cons (d_lst (d_cons d_non (d_cons d_int (d_cons d_bl (d_cons (d_lst (d_cons d_str d_nil)) (d_cons (d_tup (d_cons d_str d_nil)) (d_cons d_dcx (d_cons (d_tup (d_cons d_int (d_cons (d_tup d_nil) d_nil))) d_nil)))))))) d_nil))))
    (d_bone (d_if (d_testC (opd_ne hx.hu) (d_callB (cd_repr hx.guards hx.hu) rfl z.free_repr (by decide +kernel) (d_cons (d_lst (d_cons (d_call (cal__law_found z) hx (by decide) rfl (d_cons d_var d_nil)) (d_cons (d_call (cal__law_found z) hx (by decide) rfl (d_cons d_str d_nil)) (d_cons (d_call (cal__law_found z) hx (by decide) rfl (d_cons (d_op opd_add d_var d_str) d_nil)) d_nil)))) d_nil)) (d_callB (cd_repr hx.guards hx.hu) rfl z.free_repr (by decide +kernel) (d_cons (d_lst (d_cons (d_lst (d_cons d_str (d_cons d_non d_nil))) (d_cons (d_lst (d_cons d_str (d_cons d_int d_nil))) (d_cons (d_lst (d_cons d_str (d_cons (d_callB cd_len rfl z.free_len (by decide +kernel) (d_cons d_var d_nil)) d_nil))) d_nil)))) d_nil)) (by rfl)) (d_bone (d_ret d_bl)) d_bnil))))))))))
    (d_bone (d_ret d_bl)))))
end
def fn : List He.DefD := [⟨("_law_deck", none), "_law_deck", "_law_deck", defArgs (top 14), defBody (top 14), defScope (top 14), [], []⟩, ⟨("_law_draw", none), "_law_draw", "_law_draw", defArgs (top 15), defBody (top 15), defScope (top 15), [], []⟩, ⟨("_law_one", none), "_law_one", "_law_one", defArgs (top 16), defBody (top 16), defScope (top 16), [], []⟩, ⟨("_law_side", none), "_law_side", "_law_side", defArgs (top 17), defBody (top 17), defScope (top 17), [], []⟩, ⟨("_law_plus", none), "_law_plus", "_law_plus", defArgs (top 21), defBody (top 21), defScope (top 21), [], []⟩, ⟨("_law_trade", none), "_law_trade", "_law_trade", defArgs (top 18), defBody (top 18), defScope (top 18), [], []⟩, ⟨("_law_market", none), "_law_market", "_law_market", defArgs (top 19), defBody (top 19), defScope (top 19), [], []⟩, ⟨("_law_any_market", none), "_law_any_market", "_law_any_market", defArgs (top 20), defBody (top 20), defScope (top 20), [], []⟩, ⟨("read_goods", none), "read_goods", "read_goods", defArgs (top 9), defBody (top 9), defScope (top 9), [], []⟩, ⟨("read_bag", none), "read_bag", "read_bag", defArgs (top 10), defBody (top 10), defScope (top 10), [], []⟩, ⟨("read_trade", none), "read_trade", "read_trade", defArgs (top 11), defBody (top 11), defScope (top 11), [], []⟩, ⟨("read_market", none), "read_market", "read_market", defArgs (top 12), defBody (top 12), defScope (top 12), [], []⟩, ⟨("_law_found", none), "_law_found", "_law_found", defArgs (top 22), defBody (top 22), defScope (top 22), [], []⟩, ⟨("_law_bag_in", none), "_law_bag_in", "_law_bag_in", defArgs (top 23), defBody (top 23), defScope (top 23), [], []⟩, ⟨("_law_due", none), "_law_due", "_law_due", defArgs (top 24), defBody (top 24), defScope (top 24), [], []⟩, ⟨("_law_other", none), "_law_other", "_law_other", defArgs (top 25), defBody (top 25), defScope (top 25), [], []⟩, ⟨("law", none), "law", "law", defArgs (top 26), defBody (top 26), defScope (top 26), [], []⟩, ⟨("BadText", some "__init__"), "__init__", "BadText.__init__", defArgs (inCl (top 6) 0), defBody (inCl (top 6) 0), defScope (inCl (top 6) 0), [], []⟩]
def own : List FB := [excB "BadText" "line", exmB "BadText" "BadText" (decide (("BadText" : Str) = "BadText"))]
def fa : List He.Fa := [.glo "_law_deck", .glo "_law_draw", .glo "_law_one", .glo "_law_side", .glo "_law_plus", .glo "_law_trade", .glo "_law_market", .glo "_law_any_market", .glo "read_goods", .glo "read_bag", .glo "read_trade", .glo "read_market", .glo "_law_found", .glo "_law_bag_in", .glo "_law_due", .glo "_law_other", .glo "law", .free "enumerate", .free "int", .free "isinstance", .free "len", .free "list", .free "max", .free "range", .free "repr", .free "str", .free "sum", .free "tuple", .free "zip", .str "DIGITS" "01234", .int "MAX_AMOUNT" 3, .int "MAX_GOODS" 4, .int "MAX_TOTAL" 4, .int "MAX_TRADES" 4, .glo "BadText"]
theorem z_of {K : PySem.W.Frag} {h : Heap} {mg : Str → Option Value} (X : K.In h) (G : h.Ns mainGlobals mg) (c : SaysX fa fn own K) : Z K mg where
  fn__law_deck := by
    obtain ⟨fd, F⟩ := c.1.def_ 0 (d := ⟨("_law_deck", none), "_law_deck", "_law_deck", defArgs (top 14), defBody (top 14), defScope (top 14), [], []⟩) rfl
    exact ⟨_, fd, He.glo_ok X G (c.1.fact 0 (f := .glo "_law_deck") rfl), F⟩
  fn__law_draw := by
    obtain ⟨fd, F⟩ := c.1.def_ 1 (d := ⟨("_law_draw", none), "_law_draw", "_law_draw", defArgs (top 15), defBody (top 15), defScope (top 15), [], []⟩) rfl
    exact ⟨_, fd, He.glo_ok X G (c.1.fact 1 (f := .glo "_law_draw") rfl), F⟩
  fn__law_one := by
    obtain ⟨fd, F⟩ := c.1.def_ 2 (d := ⟨("_law_one", none), "_law_one", "_law_one", defArgs (top 16), defBody (top 16), defScope (top 16), [], []⟩) rfl
    exact ⟨_, fd, He.glo_ok X G (c.1.fact 2 (f := .glo "_law_one") rfl), F⟩
  fn__law_side := by
    obtain ⟨fd, F⟩ := c.1.def_ 3 (d := ⟨("_law_side", none), "_law_side", "_law_side", defArgs (top 17), defBody (top 17), defScope (top 17), [], []⟩) rfl
    exact ⟨_, fd, He.glo_ok X G (c.1.fact 3 (f := .glo "_law_side") rfl), F⟩
  fn__law_plus := by
    obtain ⟨fd, F⟩ := c.1.def_ 4 (d := ⟨("_law_plus", none), "_law_plus", "_law_plus", defArgs (top 21), defBody (top 21), defScope (top 21), [], []⟩) rfl
    exact ⟨_, fd, He.glo_ok X G (c.1.fact 4 (f := .glo "_law_plus") rfl), F⟩
  fn__law_trade := by
    obtain ⟨fd, F⟩ := c.1.def_ 5 (d := ⟨("_law_trade", none), "_law_trade", "_law_trade", defArgs (top 18), defBody (top 18), defScope (top 18), [], []⟩) rfl
    exact ⟨_, fd, He.glo_ok X G (c.1.fact 5 (f := .glo "_law_trade") rfl), F⟩
  fn__law_market := by
    obtain ⟨fd, F⟩ := c.1.def_ 6 (d := ⟨("_law_market", none), "_law_market", "_law_market", defArgs (top 19), defBody (top 19), defScope (top 19), [], []⟩) rfl
    exact ⟨_, fd, He.glo_ok X G (c.1.fact 6 (f := .glo "_law_market") rfl), F⟩
  fn__law_any_market := by
    obtain ⟨fd, F⟩ := c.1.def_ 7 (d := ⟨("_law_any_market", none), "_law_any_market", "_law_any_market", defArgs (top 20), defBody (top 20), defScope (top 20), [], []⟩) rfl
    exact ⟨_, fd, He.glo_ok X G (c.1.fact 7 (f := .glo "_law_any_market") rfl), F⟩
  fn_read_goods := by
    obtain ⟨fd, F⟩ := c.1.def_ 8 (d := ⟨("read_goods", none), "read_goods", "read_goods", defArgs (top 9), defBody (top 9), defScope (top 9), [], []⟩) rfl
    exact ⟨_, fd, He.glo_ok X G (c.1.fact 8 (f := .glo "read_goods") rfl), F⟩
  fn_read_bag := by
    obtain ⟨fd, F⟩ := c.1.def_ 9 (d := ⟨("read_bag", none), "read_bag", "read_bag", defArgs (top 10), defBody (top 10), defScope (top 10), [], []⟩) rfl
    exact ⟨_, fd, He.glo_ok X G (c.1.fact 9 (f := .glo "read_bag") rfl), F⟩
  fn_read_trade := by
    obtain ⟨fd, F⟩ := c.1.def_ 10 (d := ⟨("read_trade", none), "read_trade", "read_trade", defArgs (top 11), defBody (top 11), defScope (top 11), [], []⟩) rfl
    exact ⟨_, fd, He.glo_ok X G (c.1.fact 10 (f := .glo "read_trade") rfl), F⟩
  fn_read_market := by
    obtain ⟨fd, F⟩ := c.1.def_ 11 (d := ⟨("read_market", none), "read_market", "read_market", defArgs (top 12), defBody (top 12), defScope (top 12), [], []⟩) rfl
    exact ⟨_, fd, He.glo_ok X G (c.1.fact 11 (f := .glo "read_market") rfl), F⟩
  fn__law_found := by
    obtain ⟨fd, F⟩ := c.1.def_ 12 (d := ⟨("_law_found", none), "_law_found", "_law_found", defArgs (top 22), defBody (top 22), defScope (top 22), [], []⟩) rfl
    exact ⟨_, fd, He.glo_ok X G (c.1.fact 12 (f := .glo "_law_found") rfl), F⟩
  fn__law_bag_in := by
    obtain ⟨fd, F⟩ := c.1.def_ 13 (d := ⟨("_law_bag_in", none), "_law_bag_in", "_law_bag_in", defArgs (top 23), defBody (top 23), defScope (top 23), [], []⟩) rfl
    exact ⟨_, fd, He.glo_ok X G (c.1.fact 13 (f := .glo "_law_bag_in") rfl), F⟩
  fn__law_due := by
    obtain ⟨fd, F⟩ := c.1.def_ 14 (d := ⟨("_law_due", none), "_law_due", "_law_due", defArgs (top 24), defBody (top 24), defScope (top 24), [], []⟩) rfl
    exact ⟨_, fd, He.glo_ok X G (c.1.fact 14 (f := .glo "_law_due") rfl), F⟩
  fn__law_other := by
    obtain ⟨fd, F⟩ := c.1.def_ 15 (d := ⟨("_law_other", none), "_law_other", "_law_other", defArgs (top 25), defBody (top 25), defScope (top 25), [], []⟩) rfl
    exact ⟨_, fd, He.glo_ok X G (c.1.fact 15 (f := .glo "_law_other") rfl), F⟩
  fn_law := by
    obtain ⟨fd, F⟩ := c.1.def_ 16 (d := ⟨("law", none), "law", "law", defArgs (top 26), defBody (top 26), defScope (top 26), [], []⟩) rfl
    exact ⟨_, fd, He.glo_ok X G (c.1.fact 16 (f := .glo "law") rfl), F⟩
  free_enumerate := He.free_ok X G (c.1.fact 17 (f := .free "enumerate") rfl)
  free_int := He.free_ok X G (c.1.fact 18 (f := .free "int") rfl)
  free_isinstance := He.free_ok X G (c.1.fact 19 (f := .free "isinstance") rfl)
  free_len := He.free_ok X G (c.1.fact 20 (f := .free "len") rfl)
  free_list := He.free_ok X G (c.1.fact 21 (f := .free "list") rfl)
  free_max := He.free_ok X G (c.1.fact 22 (f := .free "max") rfl)
  free_range := He.free_ok X G (c.1.fact 23 (f := .free "range") rfl)
  free_repr := He.free_ok X G (c.1.fact 24 (f := .free "repr") rfl)
  free_str := He.free_ok X G (c.1.fact 25 (f := .free "str") rfl)
  free_sum := He.free_ok X G (c.1.fact 26 (f := .free "sum") rfl)
  free_tuple := He.free_ok X G (c.1.fact 27 (f := .free "tuple") rfl)
  free_zip := He.free_ok X G (c.1.fact 28 (f := .free "zip") rfl)
  int_DIGITS := He.str_ok X G (c.1.fact 29 (f := .str "DIGITS" "01234") rfl)
  int_MAX_AMOUNT := He.int_ok X G (c.1.fact 30 (f := .int "MAX_AMOUNT" 3) rfl)
  int_MAX_GOODS := He.int_ok X G (c.1.fact 31 (f := .int "MAX_GOODS" 4) rfl)
  int_MAX_TOTAL := He.int_ok X G (c.1.fact 32 (f := .int "MAX_TOTAL" 4) rfl)
  int_MAX_TRADES := He.int_ok X G (c.1.fact 33 (f := .int "MAX_TRADES" 4) rfl)
  exc_BadText := by
    obtain ⟨fd, F⟩ := c.1.def_ 17 (d := ⟨("BadText", some "__init__"), "__init__", "BadText.__init__", defArgs (inCl (top 6) 0), defBody (inCl (top 6) 0), defScope (inCl (top 6) 0), [], []⟩) rfl
    exact LowX_line.excF (LowX_line.low_of (He.glo_ok X G (c.1.fact 34 (f := .glo "BadText") rfl)) (c.own 0 (f := excB "BadText" "line") rfl) F ⟨_, _, rfl⟩ ⟨_, _, _, _, rfl⟩ rfl)
  exm_BadText_BadText := of_decide_eq_true (c.own 1 (f := exmB "BadText" "BadText" (decide (("BadText" : Str) = "BadText"))) rfl)
abbrev R : PySem.W.OpenRow := PySem.W.OpenLaw.row PySem.Challenge.rw_lentbeside_k06_texts_that_are_wrong
abbrev hk : PySem.W.Hook := hookX 6 fa fn own
def ob (s : PySem.W.SharedT) : He.AlD × Bool := obsX 6 fa fn own (HandSHeadRun.getT s)
theorem ob_eq (s : PySem.W.SharedT) : ob s = hk.obs s.abs := obsX_eq (HandSHeadRun.getT_eq s)
def loose : List Str := ["MarketError", "BadText", "read_goods", "read_bag", "read_trade", "read_market", "_law_deck", "_law_draw", "_law_one", "_law_side", "_law_trade", "_law_market", "_law_any_market", "_law_plus", "_law_found", "_law_bag_in", "_law_due", "_law_other", "MAX_GOODS", "MAX_TRADES", "MAX_AMOUNT", "MAX_TOTAL", "DIGITS"]
theorem run (w : World) : HandSHeadRun.RunEq R (PySem.W.view R.prog [26]) hk ob 4000 loose w := by
  intro os
  kernel_rfl
end G_k06
/-! plain facts for the laws. -/
namespace DL
open PySem PySem.Spec PyProof.Rows L2
theorem intsV_len (l : List Int) : (intsV l).length = l.length := by unfold intsV; rw [List.length_map]
theorem intsV_get (l : List Int) (k : Nat) : (intsV l)[k]? = (l[k]?).map DV.int := by unfold intsV; rw [List.getElem?_map]
theorem ixN_of {n j : Nat} (hj : j < n) : ixN n (j : Int) = some j := by
  unfold ixN
  rw [if_pos (by omega), if_pos (by omega), Int.toNat_natCast]
theorem atI_ints {l : List Int} {k : Nat} (h : k < l.length) : atI (intsV l) (k : Int) = some (.int (l.getD k 0)) := by
  unfold atI
  rw [intsV_len, ixN_of h]
  show (intsV l)[k]? = _
  rw [intsV_get, List.getElem?_eq_getElem h, List.getD_eq_getElem?_getD, List.getElem?_eq_getElem h]
  rfl
theorem atI_at {α : Type} {l : List α} {k : Nat} : atI l (k : Int) = l[k]? := by
  by_cases h : k < l.length
  · unfold atI
    rw [ixN_of h]
    rfl
  · unfold atI ixN
    rw [if_pos (by omega), if_neg (by omega), List.getElem?_eq_none (by omega)]
    rfl
theorem intsV_set (l : List Int) (k : Nat) (x : Int) : (intsV l).set k (.int x) = intsV (l.set k x) := by unfold intsV; rw [List.map_set]
theorem intsV_app (l r : List Int) : intsV l ++ intsV r = intsV (l ++ r) := by unfold intsV; rw [List.map_append]
theorem intsV_inj : ∀ {l r : List Int}, intsV l = intsV r → l = r
  | [], [], _ => rfl
  | [], b :: r, h => nomatch (show ([] : List DV) = .int b :: intsV r from h)
  | a :: l, [], h => nomatch (show DV.int a :: intsV l = [] from h)
  | a :: l, b :: r, h => by
    have h' : DV.int a :: intsV l = DV.int b :: intsV r := h
    injection h' with h1 h2
    cases h1
    rw [intsV_inj h2]
theorem intsD_ints : ∀ l : List Int, intsD (intsV l) = some l
  | [] => rfl
  | a :: l => by
    show (match intsD (intsV l) with
      | some is => some (a :: is)
      | none => none) = some (a :: l)
    rw [intsD_ints l]
theorem mulOk_s {i j : Int} (h1 : -(2 ^ 64) < i) (h2 : i < 2 ^ 64) : mulOk i j := .inl ⟨h1, h2⟩
theorem mulOk_r {i j : Int} (h1 : -(2 ^ 64) < j) (h2 : j < 2 ^ 64) : mulOk i j := .inr (.inl ⟨h1, h2⟩)
theorem lcGo_ind {t : Tg} {tt : MT} {te : ME} {δ : DEnv} {Q : MK (List DV)} (I : List DV → List DV → Store → Prop) (hn : ∀ acc S, I [] acc S → Q acc S)
    (hs : ∀ x xs acc S, I (x :: xs) acc S → (∀ acc' S', I xs acc' S' → lcGo t tt te δ xs acc' S' Q) → lcGo t tt te δ (x :: xs) acc S Q) : ∀ xs acc S, I xs acc S → lcGo t tt te δ xs acc S Q
  | [], acc, S, h => hn acc S h
  | x :: xs, acc, S, h => hs x xs acc S h fun acc' S' h' => lcGo_ind I hn hs xs acc' S' h'
theorem forGo_ind {g : MG} {tb : MS} {D : EndsD} (I : List DV → DEnv → Store → Prop) (hn : ∀ δ S, I [] δ S → D.nx δ S)
    (hs : ∀ x xs δ S, I (x :: xs) δ S → (∀ δ' S', I xs δ' S' → forGo g tb D xs δ' S') → forGo g tb D (x :: xs) δ S) : ∀ xs δ S, I xs δ S → forGo g tb D xs δ S
  | [], δ, S, h => hn δ S h
  | x :: xs, δ, S, h => hs x xs δ S h fun δ' S' h' => forGo_ind I hn hs xs δ' S' h'
theorem cut63 (ns : List Int) (h : ns.length ≤ 63) : cutD (intsV ns) none (some 63) = intsV ns := by
  unfold cutD
  have h1 : HT.sIx (intsV ns).length 0 none = 0 := rfl
  have h2 : HT.sIx (intsV ns).length (intsV ns).length (some 63) = (intsV ns).length := by
    rw [show (some (63 : Int)) = some ((63 : Nat) : Int) from rfl, HT.sIx_nat, intsV_len]
    omega
  rw [h1, h2, List.drop_zero, Nat.sub_zero, List.take_length]
/-- the deck: what is left of the cells; the cells, how many draws there were -/
def Dk (t : Nat) (R S : Store) : Prop := ∃ cells rests : List Int, S = some (.lst (intsV rests)) :: some (.lst [.lst (intsV cells), .int t, .ref 0]) :: R ∧ rests.length = cells.length ∧ 0 < cells.length
theorem p3_lt {i : Int} (h0 : 0 ≤ i) (h1 : i < 2 ^ 64) : i.natAbs < 2 ^ 64 := by omega
end DL
/-! plain facts for the laws: rows of ints as data. -/
namespace DL
open PySem PySem.Spec PyProof.Rows L2 PySem.W
def pI (a : List Int) : List PyData := a.map PyData.int
theorem toPs_ints : ∀ a : List Int, toPs (intsV a) = some (pI a)
  | [] => rfl
  | x :: a => by
    show toPs (.int x :: intsV a) = some (.int x :: pI a)
    simp only [toPs, toP, toPs_ints a]
theorem toP_tup {ds : List DV} {ps : List PyData} (h : toPs ds = some ps) : toP (.tup ds) = some (.tuple ps) := by simp only [toP, h]
theorem toP_lst {ds : List DV} {ps : List PyData} (h : toPs ds = some ps) : toP (.lst ds) = some (.list ps) := by simp only [toP, h]
theorem toPs_cons {d : DV} {ds : List DV} {p : PyData} {ps : List PyData} (h : toP d = some p) (g : toPs ds = some ps) : toPs (d :: ds) = some (p :: ps) := by simp only [toPs, h, g]
theorem toP_it (a : List Int) : toP (.tup (intsV a)) = some (.tuple (pI a)) := toP_tup (toPs_ints a)
theorem depthAll_ints : ∀ a : List Int, PyData.depthAll (pI a) = 0
  | [] => by simp [pI, PyData.depthAll]
  | x :: a => by
    show PyData.depthAll (.int x :: pI a) = 0
    simp [PyData.depthAll, PyData.depth, depthAll_ints a]
theorem canLay_ints : ∀ a : List Int, PyData.canLayAll0 (pI a) = true
  | [] => by simp [pI, PyData.canLayAll0]
  | x :: a => by
    show PyData.canLayAll0 (.int x :: pI a) = true
    simp [PyData.canLayAll0, PyData.canLay0, canLay_ints a]
theorem shaped_it (a : List Int) : SeqAt.shaped (.tuple (pI a)) = true := by
  unfold SeqAt.shaped
  simp [PyData.canLay0, PyData.depth, canLay_ints, depthAll_ints]
theorem shaped_il (a : List Int) : SeqAt.shaped (.list (pI a)) = true := by
  unfold SeqAt.shaped
  simp [PyData.canLay0, PyData.depth, canLay_ints, depthAll_ints]
theorem eqvAll_ints : ∀ a b : List Int, PyData.eqvAll (pI a) (pI b) = decide (a = b)
  | [], [] => by simp [pI, PyData.eqvAll]
  | [], y :: b => by simp [pI, PyData.eqvAll]
  | x :: a, [] => by simp [pI, PyData.eqvAll]
  | x :: a, y :: b => by
    show PyData.eqvAll (.int x :: pI a) (.int y :: pI b) = _
    rw [PyData.eqvAll, eqvAll_ints a b, PyData.eqv]
    by_cases h1 : x = y <;> by_cases h2 : a = b <;> simp [h1, h2]
theorem eqv_it (a b : List Int) : PyData.eqv (.tuple (pI a)) (.tuple (pI b)) = decide (a = b) := by rw [PyData.eqv, eqvAll_ints]
theorem alike_ints : ∀ a b : List Int, alikeAll (pI a) (pI b) = true
  | [], [] => by simp [pI, alikeAll]
  | [], y :: b => by simp [pI, alikeAll]
  | x :: a, [] => by simp [pI, alikeAll]
  | x :: a, y :: b => by
    show alikeAll (.int x :: pI a) (.int y :: pI b) = true
    rw [alikeAll, alike_ints a b, alike]
    rfl
theorem alike_it (a b : List Int) : alike (.tuple (pI a)) (.tuple (pI b)) = true := by rw [alike, alike_ints]
/-- == of tuples of ints -/
theorem eq_it {q : Bool → Bool} {a b : List Int} {S : Store} {Q : MK DV} (h : Q (.bl (q (decide (a = b)))) S) : fEq q (.tup (intsV a)) (.tup (intsV b)) S Q := by
  show fEqD q _ _ S Q
  unfold fEqD
  rw [toP_it, toP_it]
  show SeqAt.shaped _ = true ∧ SeqAt.shaped _ = true ∧ Q (.bl (q (PyData.eqv _ _))) S
  rw [eqv_it]
  exact ⟨shaped_it a, shaped_it b, h⟩
/-! ### a bag's rank -/
def lastI (a : List Int) : Int := a.getD (a.length - 1) 0
theorem atI_last {a : List Int} (h : a ≠ []) : atI (intsV a) (-1) = some (.int (lastI a)) := by
  have hl : 0 < a.length := List.length_pos_iff.mpr h
  unfold atI
  have e : ixN (intsV a).length (-1) = some (a.length - 1) := by
    unfold ixN
    rw [intsV_len, if_neg (by omega), if_pos (by omega)]
    congr 1
    omega
  rw [e]
  show (intsV a)[a.length - 1]? = _
  rw [intsV_get, List.getElem?_eq_getElem (by omega), lastI, List.getD_eq_getElem?_getD, List.getElem?_eq_getElem (by omega)]
  rfl
/-- (bag[-1], sum(bag), bag) -/
def keyV (a : List Int) : DV := .tup [.int (lastI a), .int a.sum, .tup (intsV a)]
def keyP (a : List Int) : PyData := .tuple [.int (lastI a), .int a.sum, .tuple (pI a)]
theorem toP_key (a : List Int) : toP (keyV a) = some (keyP a) := toP_tup (toPs_cons rfl (toPs_cons rfl (toPs_cons (toP_it a) rfl)))
theorem depth_key (a : List Int) : (keyP a).depth ≤ 60 := by
  unfold keyP
  simp [PyData.depth, PyData.depthAll, depthAll_ints]
theorem alike_key (a b : List Int) : alike (keyP a) (keyP b) = true := by
  unfold keyP
  simp [alike, alikeAll, alike_ints]
def ltK (a b : List Int) : Bool := decide (lastI a < lastI b ∨ lastI a = lastI b ∧ (a.sum < b.sum ∨ a.sum = b.sum ∧ a < b))
theorem lt_key (a b : List Int) : dataLt (keyP a) (keyP b) = ltK a b := by
  unfold keyP ltK
  rw [dataLt_tuple, dataLt_cons (by simp [alike]), dataLt_cons (by simp [alike]), dataLt_cons (alike_it a b)]
  have e : PyProof.Rows.lexLt itemOrd (keyToksAll []) (keyToksAll []) = false := lex_irrefl _
  have e2 : dataLt (.tuple (pI a)) (.tuple (pI b)) = decide (a < b) := by
    rw [dataLt_tuple]
    exact dataLt_ints a b
  rw [e, e2, dataLt_int, dataLt_int, eqv_it]
  simp only [PyData.eqv, beq_iff_eq, decide_eq_true_eq]
  by_cases h1 : lastI a = lastI b
  · by_cases h2 : a.sum = b.sum
    · by_cases h3 : a = b
      · simp [h1, h2, h3, List.lt_irrefl]
      · simp [h1, h2, h3]
    · simp [h1, h2]
  · simp [h1]
/-- < of two ranks -/
theorem lt_keyV {a b : List Int} {S : Store} {Q : MK DV} (h : Q (.bl (ltK a b)) S) : fLt (keyV a) (keyV b) S Q :=
  ⟨keyP a, keyP b, toP_key a, toP_key b, alike_key a b, depth_key a, by rw [lt_key]; exact h⟩
theorem ltK_self (a : List Int) : ltK a a = false := by
  unfold ltK
  simp [List.lt_irrefl]
theorem lt_tri : ∀ {a b : List Int}, a.length = b.length → a ≠ b → (a < b ↔ ¬ b < a)
  | [], [], _, h => absurd rfl h
  | [], y :: b, e, _ => by simp at e
  | x :: a, [], e, _ => by simp at e
  | x :: a, y :: b, e, h => by
    rw [List.cons_lt_cons_iff, List.cons_lt_cons_iff]
    by_cases h1 : x = y
    · subst h1
      have h2 : a ≠ b := fun z => h (by rw [z])
      have h3 := lt_tri (by simpa using e) h2
      constructor
      · rintro (h4 | ⟨_, h4⟩) (h5 | ⟨_, h5⟩)
        · omega
        · omega
        · omega
        · exact h3.mp h4 h5
      · intro h4
        exact .inr ⟨rfl, h3.mpr fun z => h4 (.inr ⟨rfl, z⟩)⟩
    · constructor
      · rintro (h4 | ⟨h4, _⟩) (h5 | ⟨h5, _⟩) <;> omega
      · intro h4
        refine .inl ?_
        have : ¬ y < x := fun z => h4 (.inl z)
        omega
theorem ltK_count {a b : List Int} (h : a.length = b.length) : countB [ltK a b, ltK b a] = if a = b then 0 else 1 := by
  by_cases e : a = b
  · subst e
    rw [if_pos rfl, ltK_self]
    rfl
  · rw [if_neg e]
    have h3 := lt_tri h e
    unfold ltK
    have hc : ∀ p q : Prop, [Decidable p] → [Decidable q] → (p ↔ ¬ q) → countB [decide p, decide q] = 1 := by
      intro p q _ _ h
      by_cases hp : p
      · have hq : ¬ q := h.mp hp
        simp [countB, hp, hq]
      · have hq : q := Decidable.byContradiction fun z => hp (h.mpr z)
        simp [countB, hp, hq]
    apply hc
    constructor
    · rintro (h1 | ⟨h1, h1 | ⟨h1', h1⟩⟩) (h2 | ⟨h2, h2 | ⟨h2', h2⟩⟩) <;> first | omega | exact h3.mp h1 h2
    · intro h1
      by_cases g1 : lastI a = lastI b
      · by_cases g2 : a.sum = b.sum
        · exact .inr ⟨g1, .inr ⟨g2, h3.mpr fun z => h1 (.inr ⟨g1.symm, .inr ⟨g2.symm, z⟩⟩)⟩⟩
        · refine .inr ⟨g1, .inl ?_⟩
          have : ¬ b.sum < a.sum := fun z => h1 (.inr ⟨g1.symm, .inl z⟩)
          omega
      · refine .inl ?_
        have : ¬ lastI b < lastI a := fun z => h1 (.inl z)
        omega
/-! ### sums of bags -/
def addI : List Int → List Int → List Int
  | x :: a, y :: b => (x + y) :: addI a b
  | _, _ => []
theorem addI_len : ∀ {a b : List Int}, a.length = b.length → (addI a b).length = a.length
  | [], [], _ => rfl
  | [], _ :: _, e => by simp at e
  | _ :: _, [], e => by simp at e
  | x :: a, y :: b, e => by
    have := addI_len (a := a) (b := b) (by simpa using e)
    simp [addI, this]
theorem addI_sum : ∀ {a b : List Int}, a.length = b.length → (addI a b).sum = a.sum + b.sum
  | [], [], _ => rfl
  | [], _ :: _, e => by simp at e
  | _ :: _, [], e => by simp at e
  | x :: a, y :: b, e => by
    have := addI_sum (a := a) (b := b) (by simpa using e)
    simp [addI, this]
    omega
theorem addI_getD : ∀ {a b : List Int} (k : Nat), a.length = b.length → k < a.length → (addI a b).getD k 0 = a.getD k 0 + b.getD k 0
  | [], [], k, _, h => by simp at h
  | [], _ :: _, k, e, _ => by simp at e
  | _ :: _, [], k, e, _ => by simp at e
  | x :: a, y :: b, 0, e, _ => by simp [addI]
  | x :: a, y :: b, k + 1, e, h => by
    have := addI_getD (a := a) (b := b) k (by simpa using e) (by simpa using h)
    simpa [addI] using this
theorem addI_last {a b : List Int} (e : a.length = b.length) (h : a ≠ []) : lastI (addI a b) = lastI a + lastI b := by
  have hl : 0 < a.length := List.length_pos_iff.mpr h
  unfold lastI
  rw [addI_len e, addI_getD (a.length - 1) e (by omega), e]
theorem addI_inj : ∀ {a b m : List Int}, a.length = m.length → b.length = m.length → addI a m = addI b m → a = b
  | [], [], _, _, _, _ => rfl
  | [], _ :: _, m, e, f, _ => by rw [← e] at f; simp at f
  | _ :: _, [], m, e, f, _ => by rw [← f] at e; simp at e
  | x :: a, y :: b, [], e, _, _ => by simp at e
  | x :: a, y :: b, z :: m, e, f, h => by
    have h' : (x + z) :: addI a m = (y + z) :: addI b m := h
    injection h' with h1 h2
    rw [addI_inj (by simpa using e) (by simpa using f) h2, show x = y by omega]
theorem addI_lt : ∀ {a b m : List Int}, a.length = m.length → b.length = m.length → (addI a m < addI b m ↔ a < b)
  | [], [], _, _, _ => by simp [addI]
  | [], _ :: _, m, e, f => by rw [← e] at f; simp at f
  | _ :: _, [], m, e, f => by rw [← f] at e; simp at e
  | x :: a, y :: b, [], e, _ => by simp at e
  | x :: a, y :: b, z :: m, e, f => by
    have ih := addI_lt (a := a) (b := b) (m := m) (by simpa using e) (by simpa using f)
    show (x + z) :: addI a m < (y + z) :: addI b m ↔ _
    rw [List.cons_lt_cons_iff, List.cons_lt_cons_iff, ih]
    constructor
    · rintro (h | ⟨h, g⟩)
      · exact .inl (by omega)
      · exact .inr ⟨by omega, g⟩
    · rintro (h | ⟨h, g⟩)
      · exact .inl (by omega)
      · exact .inr ⟨by omega, g⟩
theorem ltK_add {a b m : List Int} (ha : a.length = m.length) (hb : b.length = m.length) (h : a ≠ []) : ltK (addI a m) (addI b m) = ltK a b := by
  have h2 : b ≠ [] := fun z => h (List.length_eq_zero_iff.mp (by rw [ha, ← hb, z]; rfl))
  unfold ltK
  rw [addI_last ha h, addI_last hb h2, addI_sum ha, addI_sum hb]
  refine decide_eq_decide.mpr ?_
  rw [addI_lt ha hb]
  constructor
  · rintro (h | ⟨h, h' | ⟨h', g⟩⟩)
    · exact .inl (by omega)
    · exact .inr ⟨by omega, .inl (by omega)⟩
    · exact .inr ⟨by omega, .inr ⟨by omega, g⟩⟩
  · rintro (h | ⟨h, h' | ⟨h', g⟩⟩)
    · exact .inl (by omega)
    · exact .inr ⟨by omega, .inl (by omega)⟩
    · exact .inr ⟨by omega, .inr ⟨by omega, g⟩⟩
end DL
/-! what the operators do, case by case. -/
namespace DL
open PySem PySem.Spec PyProof.Rows L2 PySem.W
def onSome (o : Option DV) (S : Store) (Q : MK DV) : Prop := match o with
  | some e => Q e S
  | none => False
variable {i j : Int} {xs ys ds : List DV} {x y : Str} {b c : Bool} {S : Store} {Q : MK DV} {q : Bool → Bool} {d : DV}
theorem onSome_s : onSome (some d) S Q = Q d S := id rfl
theorem onSome_i {o : Option DV} (h : ∃ d, o = some d ∧ Q d S) : onSome o S Q := by
  obtain ⟨d, rfl, h⟩ := h
  exact h
theorem fAdd_ii : fAdd (.int i) (.int j) S Q = Q (.int (i + j)) S := id rfl
theorem fAdd_tt : fAdd (.tup xs) (.tup ys) S Q = (xs.length + ys.length ≤ 16777216 ∧ Q (.tup (xs ++ ys)) S) := id rfl
theorem fAdd_ll : fAdd (.lst xs) (.lst ys) S Q = (xs.length + ys.length ≤ 16777216 ∧ Q (.lst (xs ++ ys)) S) := id rfl
theorem fAdd_ss : fAdd (.str x) (.str y) S Q = (x.length + y.length ≤ 16777216 ∧ Q (.str (x ++ y)) S) := id rfl
theorem fSub_ii : fSub (.int i) (.int j) S Q = Q (.int (i - j)) S := id rfl
theorem fMul_ii : fMul (.int i) (.int j) S Q = (mulOk i j ∧ Q (.int (i * j)) S) := id rfl
theorem fMul_li : fMul (.lst xs) (.int i) S Q = (-(2 ^ 63) ≤ i ∧ i < 2 ^ 63 ∧ xs.length * i.toNat ≤ 16777216 ∧ Q (.lst (List.replicate i.toNat xs).flatten) S) := id rfl
theorem fDiv_ii : fDiv (.int i) (.int j) S Q = (0 < j ∧ j.natAbs.log2 < 9000 ∧ Q (.int (i / j)) S) := id rfl
theorem fMod_ii : fMod (.int i) (.int j) S Q = (0 < j ∧ Q (.int (i % j)) S) := id rfl
theorem fPow_ii : fPow (.int i) (.int j) S Q = (0 ≤ j ∧ j ≤ 1000000 ∧ i.natAbs < 2 ^ 64 ∧ Q (.int (i ^ j.toNat)) S) := id rfl
theorem fNeg_i : fNeg (.int i) S Q = Q (.int (-i)) S := id rfl
theorem fLe_ii : fLe (.int i) (.int j) S Q = Q (.bl (decide (i ≤ j))) S := id rfl
theorem fGt_ii : fGt (.int i) (.int j) S Q = Q (.bl (decide (j < i))) S := id rfl
theorem fGe_ii : fGe (.int i) (.int j) S Q = Q (.bl (decide (j ≤ i))) S := id rfl
theorem fLt_ii : fLt (.int i) (.int j) S Q = Q (.bl (decide (i < j))) S := id rfl
theorem fEq_ii : fEq q (.int i) (.int j) S Q = Q (.bl (q (decide (i = j)))) S := id rfl
theorem fEq_ss : fEq q (.str x) (.str y) S Q = Q (.bl (q (decide (x = y)))) S := id rfl
theorem fEq_bb : fEq q (.bl b) (.bl c) S Q = Q (.bl (q (decide (b = c)))) S := id rfl
theorem gLen_t : gLen [.tup xs] S Q = Q (.int xs.length) S := id rfl
theorem gLen_l : gLen [.lst xs] S Q = Q (.int xs.length) S := id rfl
theorem gLen_f : gLen [.frz xs] S Q = Q (.int xs.length) S := id rfl
theorem gInt_i : gInt [.int i] S Q = Q (.int i) S := id rfl
theorem gInt_b : gInt [.bl b] S Q = Q (.int (if b then 1 else 0)) S := id rfl
theorem gBool_b : gBool [.bl b] S Q = Q (.bl b) S := id rfl
theorem gList_t : gList [.tup xs] S Q = Q (.lst xs) S := id rfl
theorem gList_l : gList [.lst xs] S Q = Q (.lst xs) S := id rfl
theorem gList_f : gList [.frz xs] S Q = Q (.lst xs) S := id rfl
theorem gTuple_t : gTuple [.tup xs] S Q = Q (.tup xs) S := id rfl
theorem gTuple_l : gTuple [.lst xs] S Q = Q (.tup xs) S := id rfl
theorem gSum_t {a : List Int} : gSum [.tup (intsV a)] S Q = Q (.int a.sum) S := by simp only [gSum, seqD, intsD_ints]
theorem gSum_l {a : List Int} : gSum [.lst (intsV a)] S Q = Q (.int a.sum) S := by simp only [gSum, seqD, intsD_ints]
theorem gSumB_l {bs : List Bool} (h : Q (.int (countB bs)) S) : gSumB [.lst (boolsV bs)] S Q := ⟨bs, rfl, h⟩
theorem fIx_t : fIx (.tup xs) (.int i) S Q = onSome (atI xs i) S Q := id rfl
theorem fIx_l : fIx (.lst xs) (.int i) S Q = onSome (atI xs i) S Q := id rfl
theorem fIx_f : fIx (.frz xs) (.int i) S Q = onSome (atI xs i) S Q := id rfl
theorem fSl_t {lo hi : Option Int} : fSl (.tup ds) lo hi S Q = Q (.tup (cutD ds lo hi)) S := id rfl
theorem fSl_l {lo hi : Option Int} : fSl (.lst ds) lo hi S Q = Q (.lst (cutD ds lo hi)) S := id rfl
theorem fSl_f {lo hi : Option Int} : fSl (.frz ds) lo hi S Q = Q (.lst (cutD ds lo hi)) S := id rfl
theorem fRev_t : fRev (.tup ds) S Q = Q (.tup ds.reverse) S := id rfl
theorem fRev_l : fRev (.lst ds) S Q = Q (.lst ds.reverse) S := id rfl
theorem intsV_rev (a : List Int) : (intsV a).reverse = intsV a.reverse := by unfold intsV; rw [List.map_reverse]
def reprOk (p : PyData) : Prop := p.showable = true ∧ p.hasDict = false ∧ p.depth ≤ 60 ∧ p.shown.length ≤ 16777216
/-- repr of a datum -/
theorem gRepr_d {p : PyData} (h : toP d = some p) (k : reprOk p) (q : Q (.str p.shown) S) : gRepr [d] S Q := by
  show (match toP d with
    | some p => p.showable = true ∧ p.hasDict = false ∧ p.depth ≤ 60 ∧ p.shown.length ≤ 16777216 ∧ Q (.str p.shown) S
    | none => False)
  rw [h]
  exact ⟨k.1, k.2.1, k.2.2.1, k.2.2.2, q⟩
end DL
/-! what the combinators do, step by step. -/
namespace DL
open PySem PySem.Spec PyProof.Rows L2 PySem.W
def onInt (x : DV) (f : Int → Prop) : Prop := match x with
  | .int j => f j
  | _ => False
def onBl (x : DV) (f : Bool → Prop) : Prop := match x with
  | .bl j => f j
  | _ => False
def onSeq (x : DV) (f : List DV → Prop) : Prop := match x with
  | .tup ds => f ds
  | .lst ds => f ds
  | .frz ds => f ds
  | _ => False
def onZip (x y : DV) (f : List DV → Prop) : Prop := match x, y with
  | .tup xs, .tup ys => f (pairs xs ys)
  | .lst xs, .lst ys => f (pairs xs ys)
  | _, _ => False
def onEnum (x : DV) (f : List DV → Prop) : Prop := match x with
  | .tup ds => f (enum 0 ds)
  | .lst ds => f (enum 0 ds)
  | _ => False
theorem onInt_i {j : Int} {f : Int → Prop} : onInt (.int j) f = f j := id rfl
theorem onBl_b {j : Bool} {f : Bool → Prop} : onBl (.bl j) f = f j := id rfl
theorem onSeq_t {ds : List DV} {f : List DV → Prop} : onSeq (.tup ds) f = f ds := id rfl
theorem onSeq_l {ds : List DV} {f : List DV → Prop} : onSeq (.lst ds) f = f ds := id rfl
theorem onSeq_f {ds : List DV} {f : List DV → Prop} : onSeq (.frz ds) f = f ds := id rfl
theorem onZip_t {xs ys : List DV} {f : List DV → Prop} : onZip (.tup xs) (.tup ys) f = f (pairs xs ys) := id rfl
theorem onZip_l {xs ys : List DV} {f : List DV → Prop} : onZip (.lst xs) (.lst ys) f = f (pairs xs ys) := id rfl
theorem onEnum_t {ds : List DV} {f : List DV → Prop} : onEnum (.tup ds) f = f (enum 0 ds) := id rfl
theorem onEnum_l {ds : List DV} {f : List DV → Prop} : onEnum (.lst ds) f = f (enum 0 ds) := id rfl
def onT (b : Bool) (p q : Prop) : Prop := match b with
  | true => p
  | false => q
theorem onT_t {p q : Prop} : onT true p q = p := id rfl
theorem onT_f {p q : Prop} : onT false p q = q := id rfl
variable {a b c e f g : ME} {t u : MT} {δ : DEnv} {S : Store} {Q : MK DV} {QL : MK (List DV)} {QB : MK Bool} {E : MX} {D : EndsD} {m : GX} {i j l : Nat} {fn : GN} {as : MA} {sa sb : MS}
theorem mT_e : mT a δ S QB E = a δ S (fun x S1 => onBl x fun b => QB b S1) E := id rfl
theorem mAnd_e : mAnd t u δ S QB E = t δ S (fun b S1 => onT b (u δ S1 QB E) (QB false S1)) E := id rfl
theorem mOr_e : mOr t u δ S QB E = t δ S (fun b S1 => onT b (QB true S1) (u δ S1 QB E)) E := id rfl
theorem mIf_e : mIf t a b δ S Q E = t δ S (fun k S1 => onT k (a δ S1 Q E) (b δ S1 Q E)) E := id rfl
theorem mIfS_e : mIfS t sa sb D δ S = t δ S (fun k S1 => onT k (sa D δ S1) (sb D δ S1)) (fun x S1 => D.ex x δ S1) := id rfl
theorem mAndV_e : mAndV a b δ S Q E = a δ S (fun x S1 => onBl x fun k => onT k (b δ S1 Q E) (Q (.bl false) S1)) E := by
  unfold mAndV
  congr 1
  funext x S1
  cases x with
  | bl k => cases k <;> rfl
  | _ => rfl
theorem mOrV_e : mOrV a b δ S Q E = a δ S (fun x S1 => onBl x fun k => onT k (Q (.bl true) S1) (b δ S1 Q E)) E := by
  unfold mOrV
  congr 1
  funext x S1
  cases x with
  | bl k => cases k <;> rfl
  | _ => rfl
theorem mNotV_e : mNotV a δ S Q E = a δ S (fun x S1 => onBl x fun k => Q (.bl (!k)) S1) E := id rfl
theorem mCall_1 : mCall fn (mCons a mNil) δ S Q E = a δ S (fun x S1 => fn [x] S1 Q) E := id rfl
theorem mCall_2 : mCall fn (mCons a (mCons b mNil)) δ S Q E = a δ S (fun x S1 => b δ S1 (fun y S2 => fn [x, y] S2 Q) E) E := id rfl
theorem tr_and {n k : Nat} {p : Prop} (h : n = k) : (n = k ∧ p) = p := by
  rw [eq_true h, true_and]
theorem le_and {n k : Nat} {p : Prop} (h : n ≤ k) : (n ≤ k ∧ p) = p := by
  rw [eq_true h, true_and]
theorem mCallF_1 : mCallF 1 m (mCons a mNil) δ S Q E = a δ S (fun x S1 => m [x] S1 Q E) E := by
  show a δ S (fun x S1 => [x].length = 1 ∧ m [x] S1 Q E) E = _
  congr 1
  funext x S1
  exact tr_and rfl
theorem mCallF_2 : mCallF 2 m (mCons a (mCons b mNil)) δ S Q E = a δ S (fun x S1 => b δ S1 (fun y S2 => m [x, y] S2 Q E) E) E := by
  show a δ S (fun x S1 => b δ S1 (fun y S2 => [x, y].length = 2 ∧ m [x, y] S2 Q E) E) E = _
  congr 1
  funext x S1
  congr 1
  funext y S2
  exact tr_and rfl
theorem mCallF_3 : mCallF 3 m (mCons a (mCons b (mCons c mNil))) δ S Q E = a δ S (fun x S1 => b δ S1 (fun y S2 => c δ S2 (fun z S3 => m [x, y, z] S3 Q E) E) E) E := by
  show a δ S (fun x S1 => b δ S1 (fun y S2 => c δ S2 (fun z S3 => [x, y, z].length = 3 ∧ m [x, y, z] S3 Q E) E) E) E = _
  congr 1
  funext x S1
  congr 1
  funext y S2
  congr 1
  funext z S3
  exact tr_and rfl
theorem mCallF_4 : mCallF 4 m (mCons a (mCons b (mCons c (mCons e mNil)))) δ S Q E = a δ S (fun x S1 => b δ S1 (fun y S2 => c δ S2 (fun z S3 => e δ S3 (fun w S4 => m [x, y, z, w] S4 Q E) E) E) E) E := by
  show a δ S (fun x S1 => b δ S1 (fun y S2 => c δ S2 (fun z S3 => e δ S3 (fun w S4 => [x, y, z, w].length = 4 ∧ m [x, y, z, w] S4 Q E) E) E) E) E = _
  congr 1
  funext x S1
  congr 1
  funext y S2
  congr 1
  funext z S3
  congr 1
  funext w S4
  exact tr_and rfl
theorem mTup_0 : mTup mNil δ S Q E = Q (.tup []) S := le_and (Nat.zero_le _)
theorem mTup_1 : mTup (mCons a mNil) δ S Q E = a δ S (fun x S1 => Q (.tup [x]) S1) E := by
  show a δ S (fun x S1 => (1 : Nat) ≤ 16777216 ∧ Q (.tup [x]) S1) E = _
  congr 1
  funext x S1
  exact le_and (by omega)
theorem mTup_2 : mTup (mCons a (mCons b mNil)) δ S Q E = a δ S (fun x S1 => b δ S1 (fun y S2 => Q (.tup [x, y]) S2) E) E := by
  show a δ S (fun x S1 => b δ S1 (fun y S2 => (2 : Nat) ≤ 16777216 ∧ Q (.tup [x, y]) S2) E) E = _
  congr 1
  funext x S1
  congr 1
  funext y S2
  exact le_and (by omega)
theorem mTup_3 : mTup (mCons a (mCons b (mCons c mNil))) δ S Q E = a δ S (fun x S1 => b δ S1 (fun y S2 => c δ S2 (fun z S3 => Q (.tup [x, y, z]) S3) E) E) E := by
  show a δ S (fun x S1 => b δ S1 (fun y S2 => c δ S2 (fun z S3 => (3 : Nat) ≤ 16777216 ∧ Q (.tup [x, y, z]) S3) E) E) E = _
  congr 1
  funext x S1
  congr 1
  funext y S2
  congr 1
  funext z S3
  exact le_and (by omega)
theorem mLst_0 : mLst mNil δ S Q E = Q (.lst []) S := le_and (Nat.zero_le _)
theorem mLst_1 : mLst (mCons a mNil) δ S Q E = a δ S (fun x S1 => Q (.lst [x]) S1) E := by
  show a δ S (fun x S1 => (1 : Nat) ≤ 16777216 ∧ Q (.lst [x]) S1) E = _
  congr 1
  funext x S1
  exact le_and (by omega)
theorem mLst_2 : mLst (mCons a (mCons b mNil)) δ S Q E = a δ S (fun x S1 => b δ S1 (fun y S2 => Q (.lst [x, y]) S2) E) E := by
  show a δ S (fun x S1 => b δ S1 (fun y S2 => (2 : Nat) ≤ 16777216 ∧ Q (.lst [x, y]) S2) E) E = _
  congr 1
  funext x S1
  congr 1
  funext y S2
  exact le_and (by omega)
theorem mLst_3 : mLst (mCons a (mCons b (mCons c mNil))) δ S Q E = a δ S (fun x S1 => b δ S1 (fun y S2 => c δ S2 (fun z S3 => Q (.lst [x, y, z]) S3) E) E) E := by
  show a δ S (fun x S1 => b δ S1 (fun y S2 => c δ S2 (fun z S3 => (3 : Nat) ≤ 16777216 ∧ Q (.lst [x, y, z]) S3) E) E) E = _
  congr 1
  funext x S1
  congr 1
  funext y S2
  congr 1
  funext z S3
  exact le_and (by omega)
theorem mLst_4 : mLst (mCons a (mCons b (mCons c (mCons e mNil)))) δ S Q E = a δ S (fun x S1 => b δ S1 (fun y S2 => c δ S2 (fun z S3 => e δ S3 (fun w S4 => Q (.lst [x, y, z, w]) S4) E) E) E) E := by
  show a δ S (fun x S1 => b δ S1 (fun y S2 => c δ S2 (fun z S3 => e δ S3 (fun w S4 => (4 : Nat) ≤ 16777216 ∧ Q (.lst [x, y, z, w]) S4) E) E) E) E = _
  congr 1
  funext x S1
  congr 1
  funext y S2
  congr 1
  funext z S3
  congr 1
  funext w S4
  exact le_and (by omega)
theorem mPar2_e : mPar2 i j (mCons a (mCons b mNil)) D δ S = a δ S (fun x S1 => b δ S1 (fun y S2 => D.nx ((δ.set i (some x)).set j (some y)) S2) (fun x S1 => D.ex x δ S1)) (fun x S1 => D.ex x δ S1) := id rfl
theorem mPar3_e : mPar3 i j l (mCons a (mCons b (mCons c mNil))) D δ S = a δ S (fun x S1 => b δ S1 (fun y S2 => c δ S2 (fun z S3 => D.nx (((δ.set i (some x)).set j (some y)).set l (some z)) S3) (fun x S1 => D.ex x δ S1)) (fun x S1 => D.ex x δ S1)) (fun x S1 => D.ex x δ S1) := id rfl
theorem iR1_e : iR1 (mCons a mNil) δ S QL E = a δ S (fun x S1 => onInt x fun j => -(2 ^ 62) ≤ j ∧ j < 2 ^ 62 ∧ QL (rngD 0 j.toNat) S1) E := by
  show a δ S (fun x S1 => (match [x] with
    | [.int j] => -(2 ^ 62) ≤ j ∧ j < 2 ^ 62 ∧ QL (rngD 0 j.toNat) S1
    | _ => False)) E = _
  congr 1
  funext x S1
  cases x <;> rfl
theorem iZ_e : iZ (mCons a (mCons b mNil)) δ S QL E = a δ S (fun x S1 => b δ S1 (fun y S2 => onZip x y fun xs => QL xs S2) E) E := by
  show a δ S (fun x S1 => b δ S1 (fun y S2 => (match [x, y] with
    | [.tup xs, .tup ys] => QL (pairs xs ys) S2
    | [.lst xs, .lst ys] => QL (pairs xs ys) S2
    | _ => False)) E) E = _
  congr 1
  funext x S1
  congr 1
  funext y S2
  cases x <;> cases y <;> rfl
theorem iE_e : iE (mCons a mNil) δ S QL E = a δ S (fun x S1 => onEnum x fun xs => QL xs S1) E := by
  show a δ S (fun x S1 => (match [x] with
    | [.tup xs] => QL (enum 0 xs) S1
    | [.lst xs] => QL (enum 0 xs) S1
    | _ => False)) E = _
  congr 1
  funext x S1
  cases x <;> rfl
theorem iS_e : iS a δ S QL E = a δ S (fun x S1 => onSeq x fun xs => QL xs S1) E := id rfl
theorem slot_0 {x : Option DV} {r : DEnv} : slot (x :: r) 0 = x := id rfl
theorem slot_s {x : Option DV} {r : DEnv} {n : Nat} : slot (x :: r) (n + 1) = slot r n := id rfl
theorem mVar_e : mVar i δ S Q E = onSome (slot δ i) S Q := id rfl
theorem lcGo_n {t : Tg} {tt : MT} {te : ME} {acc : List DV} : lcGo t tt te δ [] acc S QL = QL acc S := id rfl
def onEnv (o : Option DEnv) (f : DEnv → Prop) : Prop := match o with
  | some d => f d
  | none => False
theorem onEnv_s {d : DEnv} {f : DEnv → Prop} : onEnv (some d) f = f d := id rfl
theorem lcGo_c {t : Tg} {tt : MT} {te : ME} {x : DV} {xs acc : List DV} : lcGo t tt te δ (x :: xs) acc S QL = onEnv (bindT t x δ) fun δ1 => tt δ1 S (fun b S1 => onT b (te δ1 S1 (fun y S2 => acc.length < 16777216 ∧ lcGo t tt te δ xs (acc ++ [y]) S2 QL) noE) (lcGo t tt te δ xs acc S1 QL)) noE := id rfl
theorem forGo_c {g : MG} {tb : MS} {x : DV} {xs : List DV} : forGo g tb D (x :: xs) δ S = g x δ S fun δ1 S1 => tb { D with nx := forGo g tb D xs, ct := forGo g tb D xs, bk := D.nx } δ1 S1 := id rfl
theorem gTg_e {t : Tg} {d : DV} {R : DEnv → Store → Prop} : gTg t d δ S R = onEnv (bindT t d δ) fun δ1 => R δ1 S := id rfl
theorem bindT_nm {d : DV} : bindT (.nm i) d δ = some (δ.set i (some d)) := by simp only [bindT]
theorem bindT_1 {t1 : Tg} {d1 : DV} : bindT (.tp [t1]) (.tup [d1]) δ = bindT t1 d1 δ := by
  simp only [bindT, bindTs]
  cases bindT t1 d1 δ <;> rfl
theorem bindT_2 {n k : Nat} {d1 d2 : DV} : bindT (.tp [.nm n, .nm k]) (.tup [d1, d2]) δ = some ((δ.set n (some d1)).set k (some d2)) := by simp only [bindT, bindTs]
theorem bindT_3 {n k l : Nat} {d1 d2 d3 : DV} : bindT (.tp [.nm n, .nm k, .nm l]) (.tup [d1, d2, d3]) δ = some (((δ.set n (some d1)).set k (some d2)).set l (some d3)) := by simp only [bindT, bindTs]
theorem mNext_e : mNext D δ S = D.nx δ S := id rfl
theorem mSeq_e : mSeq sa sb D δ S = sa { D with nx := sb D } δ S := id rfl
theorem mExpr_e : mExpr a D δ S = a δ S (fun _ S1 => D.nx δ S1) (fun x S1 => D.ex x δ S1) := id rfl
theorem mRet_e : mRet a D δ S = a δ S D.rt (fun x S1 => D.ex x δ S1) := id rfl
theorem mRetN_e : mRetN D δ S = D.rt .non S := id rfl
theorem mBreak_e : mBreak D δ S = D.bk δ S := id rfl
theorem mCont_e : mCont D δ S = D.ct δ S := id rfl
theorem mSet_e : mSet i a D δ S = a δ S (fun d S1 => D.nx (δ.set i (some d)) S1) (fun x S1 => D.ex x δ S1) := id rfl
theorem mAsg_e {g : MG} : mAsg a g D δ S = a δ S (fun d S1 => g d δ S1 D.nx) (fun x S1 => D.ex x δ S1) := id rfl
theorem mC_e {d : DV} : mC d δ S Q E = Q d S := id rfl
theorem mOp_e {g : G2} : mOp g a b δ S Q E = a δ S (fun x S1 => b δ S1 (fun y S2 => g x y S2 Q) E) E := id rfl
theorem mUn_e {g : G1} : mUn g a δ S Q E = a δ S (fun x S1 => g x S1 Q) E := id rfl
theorem mNot_e : mNot t δ S QB E = t δ S (fun c S1 => QB (!c) S1) E := id rfl
theorem mFor_e {it : MI} {g : MG} : mFor it g sa D δ S = it δ S (fun xs S1 => forGo g sa D xs δ S1) (fun x S1 => D.ex x δ S1) := id rfl
theorem mLc_e {it : MI} {tg : Tg} {vs : List Nat} : mLc it tg t a vs δ S Q E = it δ S (fun xs S1 => lcGo tg t a (wipeD δ vs) xs [] S1 (fun ys S2 => Q (.lst ys) S2)) E := id rfl
theorem mLcO_e {it : MI} {tg : Tg} {vs : List Nat} : mLcO it tg t a vs δ S Q E = it δ S (fun xs S1 => lcGo tg t a (wipeD δ vs) xs [] S1 (fun ys S2 => Q (.ref S2.length) (S2 ++ [some (.lst ys)]))) E := id rfl
theorem mYes_e : mYes δ S QB E = QB true S := id rfl
theorem mBody_e {ds : List DV} {n : Nat} : mBody n sa ds S Q E = sa { nx := fun _ S' => Q .non S', rt := Q, bk := fun _ _ => False, ct := fun _ _ => False, ex := fun x _ S' => E x S' } (startD n ds) S := id rfl
theorem startD_e {ds : List DV} {n : Nat} : startD n ds = ds.map some ++ List.replicate (n - ds.length) none := id rfl
abbrev MOI := DEnv → Store → MK (Option Int) → MX → Prop
theorem mPN_e {QI : MK (Option Int)} : mPN δ S QI E = QI none S := id rfl
theorem mPS_e {QI : MK (Option Int)} : mPS a δ S QI E = a δ S (fun x S1 => onInt x fun i => QI (some i) S1) E := id rfl
theorem mSl_e {g : GS} {lo hi : MP} : mSl g a lo hi δ S Q E = a δ S (fun x S1 => lo δ S1 (fun l S2 => hi δ S2 (fun h S3 => g x l h S3 Q) E) E) E := id rfl
theorem wipeD_n : wipeD δ [] = δ := id rfl
theorem wipeD_c {v : Nat} {vs : List Nat} : wipeD δ (v :: vs) = (wipeD δ vs).set v none := id rfl
theorem mDct_e : mDct δ S Q E = Q .dct S := id rfl
end DL
/-! how long a datum's text is. -/
namespace DL
open PySem PySem.Spec PyProof.Rows L2 PySem.W
theorem textFrom_max : ∀ (ts : List Str) (k : Nat) (acc : Str), (textFrom k acc ts).length ≤ acc.length + piled ts
  | [], k, acc => by show acc.length ≤ _; exact Nat.le_add_right _ _
  | t :: r, k, acc => by
    have ih := textFrom_max r (k + 1) (acc ++ (if k > 0 then ", " else "" : String) ++ t)
    have e : (textFrom k acc (t :: r)).length = (textFrom (k + 1) (acc ++ (if k > 0 then ", " else "" : String) ++ t) r).length := rfl
    rw [e]
    have h1 : (acc ++ (if k > 0 then ", " else "" : String) ++ t).length ≤ acc.length + 2 + t.length := by
      rw [Str.length_append, Str.length_append]
      have : (Str.ofString (if k > 0 then ", " else "" : String)).length ≤ 2 := by
        split <;> decide +kernel
      omega
    have h2 : piled (t :: r) = t.length + 2 + piled r := by simp [piled]
    omega
theorem listText_max (ts : List Str) : (listText ts).length ≤ piled ts + 2 := by
  unfold listText
  rw [Str.length_append]
  have h := textFrom_max ts 0 "["
  have h1 : (Str.ofString "[").length = 1 := by decide +kernel
  have h2 : (Str.ofString "]").length = 1 := by decide +kernel
  omega
theorem tupleText_max (ts : List Str) : (tupleText ts).length ≤ piled ts + 3 := by
  unfold tupleText
  rw [Str.length_append, Str.length_append]
  have h1 : (Str.ofString "(").length = 1 := by decide +kernel
  have h2 : (Str.ofString (if ts.length == 1 then ",)" else ")" : String)).length ≤ 2 := by
    split <;> decide +kernel
  have h3 : (Str.join ", " ts).length ≤ piled ts := by
    by_cases h : ts = []
    · subst h
      decide +kernel
    · have := join_length_add ts h
      omega
  omega
mutual
/-- ints within bounds, no text, no dict -/
def bndP : PyData → Bool
  | .none => true
  | .bool _ => true
  | .int i => decide (i.natAbs < 10 ^ 24)
  | .list xs => bndAll xs
  | .tuple xs => bndAll xs
  | .str x => x.cps.toList.all fun c => decide (c < 16 ^ 8)
  | _ => false
def bndAll : List PyData → Bool
  | [] => true
  | x :: xs => bndP x && bndAll xs
end
mutual
def szP : PyData → Nat
  | .list xs => szAll xs + 3
  | .tuple xs => szAll xs + 3
  | .str x => 10 * x.length + 2
  | _ => 25
def szAll : List PyData → Nat
  | [] => 0
  | x :: xs => szP x + 2 + szAll xs
end
theorem str_len (s : String) : (Str.ofString s).length = s.length := by
  exact PySem.ofString_length s
mutual
theorem shown_max : ∀ p : PyData, bndP p = true → p.shown.length ≤ szP p ∧ p.showable = true ∧ p.hasDict = false
  | .none, _ => ⟨by decide +kernel, by simp only [PyData.showable], by simp only [PyData.hasDict]⟩
  | .bool b, _ => ⟨by cases b <;> decide +kernel, by simp only [PyData.showable], by simp only [PyData.hasDict]⟩
  | .int i, h => by
    have hb : i.natAbs < 10 ^ 24 := by simpa [bndP] using h
    refine ⟨?_, ?_, by simp only [PyData.hasDict]⟩
    · have := int_text_length_le10 (k := 24) (by decide) hb
      simp only [PyData.shown, szP]
      rw [str_len]
      exact this
    · simp only [PyData.showable, decide_eq_true_eq]
      have : i.natAbs < 2 ^ 1919 := Nat.lt_of_lt_of_le hb (by decide +kernel)
      by_cases h0 : i.natAbs = 0
      · rw [h0]
        decide +kernel
      · have := (Nat.log2_lt h0).mpr this
        omega
  | .str x, h => by
    have h' : ∀ c ∈ x.cps.toList, c < 16 ^ 8 := fun c hc => of_decide_eq_true (List.all_eq_true.mp (show (x.cps.toList.all fun c => decide (c < 16 ^ 8)) = true from h) c hc)
    refine ⟨?_, by simp only [PyData.showable], by simp only [PyData.hasDict]⟩
    simp only [PyData.shown, szP]
    exact StrLaws.reprText_len x h'
  | .dict _, h => by simp [bndP] at h
  | .list xs, h => by
    obtain ⟨h1, h2, h3⟩ := shownAll_max xs (by simpa [bndP] using h)
    refine ⟨?_, by simpa only [PyData.showable] using h2, by simpa only [PyData.hasDict] using h3⟩
    simp only [PyData.shown, szP]
    have := listText_max (PyData.shownAll xs)
    omega
  | .tuple xs, h => by
    obtain ⟨h1, h2, h3⟩ := shownAll_max xs (by simpa [bndP] using h)
    refine ⟨?_, by simpa only [PyData.showable] using h2, by simpa only [PyData.hasDict] using h3⟩
    simp only [PyData.shown, szP]
    have := tupleText_max (PyData.shownAll xs)
    omega
theorem shownAll_max : ∀ ps : List PyData, bndAll ps = true → piled (PyData.shownAll ps) ≤ szAll ps ∧ PyData.showableAll ps = true ∧ PyData.hasDictAll ps = false
  | [], _ => ⟨by simp [PyData.shownAll, piled], by simp only [PyData.showableAll], by simp only [PyData.hasDictAll]⟩
  | x :: xs, h => by
    have h' : bndP x = true ∧ bndAll xs = true := by simpa [bndAll] using h
    obtain ⟨h1, h2, h3⟩ := shown_max x h'.1
    obtain ⟨g1, g2, g3⟩ := shownAll_max xs h'.2
    refine ⟨?_, by simp only [PyData.showableAll, h2, g2, Bool.and_self], by simp only [PyData.hasDictAll, h3, g3, Bool.or_self]⟩
    simp only [PyData.shownAll, piled_cons, szAll]
    omega
end
theorem reprOk_of {p : PyData} (h : bndP p = true) (hd : p.depth ≤ 60) (hs : szP p ≤ 16777216) : reprOk p := by
  obtain ⟨h1, h2, h3⟩ := shown_max p h
  exact ⟨h2, h3, hd, Nat.le_trans h1 hs⟩
theorem bndAll_ints {a : List Int} (h : ∀ x ∈ a, x.natAbs < 10 ^ 24) : bndAll (pI a) = true := by
  induction a with
  | nil => simp [pI, bndAll]
  | cons x a ih =>
    show bndAll (.int x :: pI a) = true
    rw [bndAll, ih fun y hy => h y (List.mem_cons_of_mem _ hy), bndP, decide_eq_true (h x List.mem_cons_self)]
    rfl
theorem szAll_ints : ∀ a : List Int, szAll (pI a) = 27 * a.length
  | [] => by simp [pI, szAll]
  | x :: a => by
    show szAll (.int x :: pI a) = _
    simp only [szAll, szAll_ints a, szP, List.length_cons]
    omega
end DL
/-! comprehensions that leave the store; loops over encoded lists. -/
namespace DL
open PySem PySem.Spec PyProof.Rows L2 PySem.W
theorem lc_fm {α : Type} {t : Tg} {tt : MT} {te : ME} {δ : DEnv} {S : Store} {Q : MK (List DV)} (enc f : α → DV) (p : α → Bool) : ∀ (xs : List α) (acc : List DV), acc.length + xs.length < 16777216 →
    (∀ x ∈ xs, ∃ δ1, bindT t (enc x) δ = some δ1 ∧ (∀ Qb : MK Bool, Qb (p x) S → tt δ1 S Qb noE) ∧ (p x = true → ∀ Qc : MK DV, Qc (f x) S → te δ1 S Qc noE)) →
    Q (acc ++ (xs.filter p).map f) S → lcGo t tt te δ (xs.map enc) acc S Q
  | [], acc, _, _, q => by
    show Q acc S
    simpa using q
  | x :: xs, acc, hl, h, q => by
    obtain ⟨δ1, h1, h2, h3⟩ := h x List.mem_cons_self
    rw [List.length_cons] at hl
    show (match bindT t (enc x) δ with
      | some δ1 => tt δ1 S (fun b S1 => match b with
        | true => te δ1 S1 (fun y S2 => acc.length < 16777216 ∧ lcGo t tt te δ (xs.map enc) (acc ++ [y]) S2 Q) noE
        | false => lcGo t tt te δ (xs.map enc) acc S1 Q) noE
      | none => False)
    rw [h1]
    refine h2 _ ?_
    cases hp : p x with
    | true =>
      refine h3 hp _ ⟨by omega, lc_fm enc f p xs _ (by simp; omega) (fun y hy => h y (List.mem_cons_of_mem _ hy)) ?_⟩
      rw [List.filter_cons, if_pos hp] at q
      simpa using q
    | false =>
      refine lc_fm enc f p xs _ (by omega) (fun y hy => h y (List.mem_cons_of_mem _ hy)) ?_
      rw [List.filter_cons, if_neg (by rw [hp]; exact Bool.false_ne_true)] at q
      exact q
/-- without a condition -/
theorem lc_m {α : Type} {t : Tg} {te : ME} {δ : DEnv} {S : Store} {Q : MK (List DV)} (enc f : α → DV) (xs : List α) (hl : xs.length < 16777216)
    (h : ∀ x ∈ xs, ∃ δ1, bindT t (enc x) δ = some δ1 ∧ ∀ Qc : MK DV, Qc (f x) S → te δ1 S Qc noE) (q : Q (xs.map f) S) : lcGo t mYes te δ (xs.map enc) [] S Q :=
  lc_fm enc f (fun _ => true) xs [] (by simpa using hl) (fun x hx => by
    obtain ⟨δ1, h1, h2⟩ := h x hx
    exact ⟨δ1, h1, fun Qb qb => qb, fun _ => h2⟩) (by rw [List.filter_eq_self.mpr fun _ _ => rfl]; simpa using q)
theorem rngD_eq (lo : Int) (n : Nat) : rngD lo n = (List.range n).map fun (k : Nat) => DV.int (lo + k) := by
  refine List.ext_getElem? fun i => ?_
  by_cases h : i < n
  · rw [rngD_get lo n i h, List.getElem?_map, List.getElem?_range h]
    rfl
  · rw [List.getElem?_eq_none (by rw [rngD_len]; omega), List.getElem?_eq_none (by simp; omega)]
theorem rng0_eq (n : Nat) : rngD 0 n = (List.range n).map fun (k : Nat) => DV.int k := by
  rw [rngD_eq]
  congr 1
  funext k
  rw [Int.zero_add]
theorem pairs_ints : ∀ a b : List Int, pairs (intsV a) (intsV b) = (a.zip b).map fun p => DV.tup [.int p.1, .int p.2]
  | [], b => by cases b <;> rfl
  | x :: a, [] => rfl
  | x :: a, y :: b => by
    show DV.tup [.int x, .int y] :: pairs (intsV a) (intsV b) = _
    rw [pairs_ints a b]
    rfl
theorem enum_eq {α : Type} (enc : α → DV) : ∀ (k : Nat) (xs : List α), enum k (xs.map enc) = (xs.zipIdx k).map fun p => DV.tup [.int (p.2 : Nat), enc p.1]
  | k, [] => rfl
  | k, x :: xs => by
    show DV.tup [.int (k : Nat), enc x] :: enum (k + 1) (xs.map enc) = _
    rw [enum_eq enc (k + 1) xs]
    rfl
theorem for_enc {α : Type} {g : MG} {tb : MS} {D : EndsD} (enc : α → DV) (I : List α → DEnv → Store → Prop) (hn : ∀ δ S, I [] δ S → D.nx δ S)
    (hs : ∀ x xs δ S, I (x :: xs) δ S → (∀ δ' S', I xs δ' S' → forGo g tb D (xs.map enc) δ' S') → forGo g tb D (enc x :: xs.map enc) δ S) : ∀ xs δ S, I xs δ S → forGo g tb D (xs.map enc) δ S
  | [], δ, S, h => hn δ S h
  | x :: xs, δ, S, h => hs x xs δ S h fun δ' S' h' => for_enc enc I hn hs xs δ' S' h'
end DL
/-! more of what operators do, case by case. -/
namespace DL
open PySem PySem.Spec PyProof.Rows L2 PySem.W
variable {i j : Int} {xs ys ds : List DV} {x y : Str} {b c : Bool} {S : Store} {Q : MK DV} {q : Bool → Bool} {d : DV}
theorem gIsi_of {t n : String} {k : Bool} (h : tyD S d = some t) (h2 : kitB t n = some k) : gIsi [d, .ty n] S Q = Q (.bl k) S := by
  show (match tyD S d with
    | some t => (match kitB t n with
      | some b => Q (.bl b) S
      | none => False)
    | none => False) = _
  rw [h]
  show (match kitB t n with
      | some b => Q (.bl b) S
      | none => False) = _
  rw [h2]
variable {δ : DEnv} {E : MX} {u v w : ME} {g g' : G2}
theorem mChain_e : mChain g g' u v w δ S Q E = u δ S (fun x S1 => v δ S1 (fun y S2 => g x y S2 (fun z S3 => onBl z fun k => onT k (w δ S3 (fun w S4 => g' y w S4 Q) E) (Q (.bl false) S3))) E) E := by
  unfold mChain
  congr 1
  funext x S1
  congr 1
  funext y S2
  congr 1
  funext z S3
  cases z with
  | bl k => cases k <;> rfl
  | _ => rfl
theorem gMax2_ii : gMax2 [.int i, .int j] S Q = Q (.int (if j > i then j else i)) S := id rfl
theorem fMulO_li {k : Int} : fMulO (.lst xs) (.int k) S Q = (-(2 ^ 63) ≤ k ∧ k < 2 ^ 63 ∧ xs.length * k.toNat ≤ 16777216 ∧ Q (.ref S.length) (S ++ [some (.lst (List.replicate k.toNat xs).flatten)])) := id rfl
theorem fMulT_e {k : Int} : fMulT (.tup xs) (.int k) S Q = (xs ≠ [] ∧ 0 ≤ k ∧ k ≤ 1000 ∧ xs.length ≤ 1000 ∧ Q (.tup (List.replicate k.toNat xs).flatten) S) := id rfl
variable {as bs : ME} {QL : MK (List DV)}
theorem iR2_e : iR2 (mCons as (mCons bs mNil)) δ S QL E = as δ S (fun x S1 => bs δ S1 (fun y S2 => onInt x fun i => onInt y fun j => (-(2 ^ 62) ≤ i ∧ i < 2 ^ 62 ∧ -(2 ^ 62) ≤ j ∧ j < 2 ^ 62) ∧ QL (rngD i (j - i).toNat) S2) E) E := by
  show as δ S (fun x S1 => bs δ S1 (fun y S2 => (match [x, y] with
    | [.int i, .int j] => (-(2 ^ 62) ≤ i ∧ i < 2 ^ 62 ∧ -(2 ^ 62) ≤ j ∧ j < 2 ^ 62) ∧ QL (rngD i (j - i).toNat) S2
    | _ => False)) E) E = _
  congr 1
  funext x S1
  congr 1
  funext y S2
  cases x <;> cases y <;> rfl
theorem mLstO_0 {S0 : Store} : mLstO mNil δ S0 Q E = Q (DV.ref (List.length S0)) (S0 ++ [some (DO.lst [])]) := le_and (Nat.zero_le _)
theorem mLstO_1 {u0 : ME} {S0 : Store} : mLstO (mCons u0 mNil) δ S0 Q E = u0 δ S0 (fun x0 S1 => Q (.ref S1.length) (S1 ++ [some (.lst [x0])])) E := by
  show u0 δ S0 (fun x0 S1 => (1 : Nat) ≤ 16777216 ∧ Q (.ref S1.length) (S1 ++ [some (.lst [x0])])) E = _
  congr 1
  funext x0 S1
  exact le_and (by omega)
theorem mLstO_2 {u0 u1 : ME} {S0 : Store} : mLstO (mCons u0 (mCons u1 mNil)) δ S0 Q E = u0 δ S0 (fun x0 S1 => u1 δ S1 (fun x1 S2 => Q (.ref S2.length) (S2 ++ [some (.lst [x0, x1])])) E) E := by
  show u0 δ S0 (fun x0 S1 => u1 δ S1 (fun x1 S2 => (2 : Nat) ≤ 16777216 ∧ Q (.ref S2.length) (S2 ++ [some (.lst [x0, x1])])) E) E = _
  congr 1
  funext x0 S1
  congr 1
  funext x1 S2
  exact le_and (by omega)
theorem mLstO_3 {u0 u1 u2 : ME} {S0 : Store} : mLstO (mCons u0 (mCons u1 (mCons u2 mNil))) δ S0 Q E = u0 δ S0 (fun x0 S1 => u1 δ S1 (fun x1 S2 => u2 δ S2 (fun x2 S3 => Q (.ref S3.length) (S3 ++ [some (.lst [x0, x1, x2])])) E) E) E := by
  show u0 δ S0 (fun x0 S1 => u1 δ S1 (fun x1 S2 => u2 δ S2 (fun x2 S3 => (3 : Nat) ≤ 16777216 ∧ Q (.ref S3.length) (S3 ++ [some (.lst [x0, x1, x2])])) E) E) E = _
  congr 1
  funext x0 S1
  congr 1
  funext x1 S2
  congr 1
  funext x2 S3
  exact le_and (by omega)
theorem mLstO_4 {u0 u1 u2 u3 : ME} {S0 : Store} : mLstO (mCons u0 (mCons u1 (mCons u2 (mCons u3 mNil)))) δ S0 Q E = u0 δ S0 (fun x0 S1 => u1 δ S1 (fun x1 S2 => u2 δ S2 (fun x2 S3 => u3 δ S3 (fun x3 S4 => Q (.ref S4.length) (S4 ++ [some (.lst [x0, x1, x2, x3])])) E) E) E) E := by
  show u0 δ S0 (fun x0 S1 => u1 δ S1 (fun x1 S2 => u2 δ S2 (fun x2 S3 => u3 δ S3 (fun x3 S4 => (4 : Nat) ≤ 16777216 ∧ Q (.ref S4.length) (S4 ++ [some (.lst [x0, x1, x2, x3])])) E) E) E) E = _
  congr 1
  funext x0 S1
  congr 1
  funext x1 S2
  congr 1
  funext x2 S3
  congr 1
  funext x3 S4
  exact le_and (by omega)
theorem mTup_4 {u0 u1 u2 u3 : ME} {S0 : Store} : mTup (mCons u0 (mCons u1 (mCons u2 (mCons u3 mNil)))) δ S0 Q E = u0 δ S0 (fun x0 S1 => u1 δ S1 (fun x1 S2 => u2 δ S2 (fun x2 S3 => u3 δ S3 (fun x3 S4 => Q (.tup [x0, x1, x2, x3]) S4) E) E) E) E := by
  show u0 δ S0 (fun x0 S1 => u1 δ S1 (fun x1 S2 => u2 δ S2 (fun x2 S3 => u3 δ S3 (fun x3 S4 => (4 : Nat) ≤ 16777216 ∧ Q (.tup [x0, x1, x2, x3]) S4) E) E) E) E = _
  congr 1
  funext x0 S1
  congr 1
  funext x1 S2
  congr 1
  funext x2 S3
  congr 1
  funext x3 S4
  exact le_and (by omega)
theorem mLstO_5 {u0 u1 u2 u3 u4 : ME} {S0 : Store} : mLstO (mCons u0 (mCons u1 (mCons u2 (mCons u3 (mCons u4 mNil))))) δ S0 Q E = u0 δ S0 (fun x0 S1 => u1 δ S1 (fun x1 S2 => u2 δ S2 (fun x2 S3 => u3 δ S3 (fun x3 S4 => u4 δ S4 (fun x4 S5 => Q (.ref S5.length) (S5 ++ [some (.lst [x0, x1, x2, x3, x4])])) E) E) E) E) E := by
  show u0 δ S0 (fun x0 S1 => u1 δ S1 (fun x1 S2 => u2 δ S2 (fun x2 S3 => u3 δ S3 (fun x3 S4 => u4 δ S4 (fun x4 S5 => (5 : Nat) ≤ 16777216 ∧ Q (.ref S5.length) (S5 ++ [some (.lst [x0, x1, x2, x3, x4])])) E) E) E) E) E = _
  congr 1
  funext x0 S1
  congr 1
  funext x1 S2
  congr 1
  funext x2 S3
  congr 1
  funext x3 S4
  congr 1
  funext x4 S5
  exact le_and (by omega)
theorem mLst_5 {u0 u1 u2 u3 u4 : ME} {S0 : Store} : mLst (mCons u0 (mCons u1 (mCons u2 (mCons u3 (mCons u4 mNil))))) δ S0 Q E = u0 δ S0 (fun x0 S1 => u1 δ S1 (fun x1 S2 => u2 δ S2 (fun x2 S3 => u3 δ S3 (fun x3 S4 => u4 δ S4 (fun x4 S5 => Q (.lst [x0, x1, x2, x3, x4]) S5) E) E) E) E) E := by
  show u0 δ S0 (fun x0 S1 => u1 δ S1 (fun x1 S2 => u2 δ S2 (fun x2 S3 => u3 δ S3 (fun x3 S4 => u4 δ S4 (fun x4 S5 => (5 : Nat) ≤ 16777216 ∧ Q (.lst [x0, x1, x2, x3, x4]) S5) E) E) E) E) E = _
  congr 1
  funext x0 S1
  congr 1
  funext x1 S2
  congr 1
  funext x2 S3
  congr 1
  funext x3 S4
  congr 1
  funext x4 S5
  exact le_and (by omega)
theorem mTup_5 {u0 u1 u2 u3 u4 : ME} {S0 : Store} : mTup (mCons u0 (mCons u1 (mCons u2 (mCons u3 (mCons u4 mNil))))) δ S0 Q E = u0 δ S0 (fun x0 S1 => u1 δ S1 (fun x1 S2 => u2 δ S2 (fun x2 S3 => u3 δ S3 (fun x3 S4 => u4 δ S4 (fun x4 S5 => Q (.tup [x0, x1, x2, x3, x4]) S5) E) E) E) E) E := by
  show u0 δ S0 (fun x0 S1 => u1 δ S1 (fun x1 S2 => u2 δ S2 (fun x2 S3 => u3 δ S3 (fun x3 S4 => u4 δ S4 (fun x4 S5 => (5 : Nat) ≤ 16777216 ∧ Q (.tup [x0, x1, x2, x3, x4]) S5) E) E) E) E) E = _
  congr 1
  funext x0 S1
  congr 1
  funext x1 S2
  congr 1
  funext x2 S3
  congr 1
  funext x3 S4
  congr 1
  funext x4 S5
  exact le_and (by omega)
theorem mLstO_6 {u0 u1 u2 u3 u4 u5 : ME} {S0 : Store} : mLstO (mCons u0 (mCons u1 (mCons u2 (mCons u3 (mCons u4 (mCons u5 mNil)))))) δ S0 Q E = u0 δ S0 (fun x0 S1 => u1 δ S1 (fun x1 S2 => u2 δ S2 (fun x2 S3 => u3 δ S3 (fun x3 S4 => u4 δ S4 (fun x4 S5 => u5 δ S5 (fun x5 S6 => Q (.ref S6.length) (S6 ++ [some (.lst [x0, x1, x2, x3, x4, x5])])) E) E) E) E) E) E := by
  show u0 δ S0 (fun x0 S1 => u1 δ S1 (fun x1 S2 => u2 δ S2 (fun x2 S3 => u3 δ S3 (fun x3 S4 => u4 δ S4 (fun x4 S5 => u5 δ S5 (fun x5 S6 => (6 : Nat) ≤ 16777216 ∧ Q (.ref S6.length) (S6 ++ [some (.lst [x0, x1, x2, x3, x4, x5])])) E) E) E) E) E) E = _
  congr 1
  funext x0 S1
  congr 1
  funext x1 S2
  congr 1
  funext x2 S3
  congr 1
  funext x3 S4
  congr 1
  funext x4 S5
  congr 1
  funext x5 S6
  exact le_and (by omega)
theorem mLst_6 {u0 u1 u2 u3 u4 u5 : ME} {S0 : Store} : mLst (mCons u0 (mCons u1 (mCons u2 (mCons u3 (mCons u4 (mCons u5 mNil)))))) δ S0 Q E = u0 δ S0 (fun x0 S1 => u1 δ S1 (fun x1 S2 => u2 δ S2 (fun x2 S3 => u3 δ S3 (fun x3 S4 => u4 δ S4 (fun x4 S5 => u5 δ S5 (fun x5 S6 => Q (.lst [x0, x1, x2, x3, x4, x5]) S6) E) E) E) E) E) E := by
  show u0 δ S0 (fun x0 S1 => u1 δ S1 (fun x1 S2 => u2 δ S2 (fun x2 S3 => u3 δ S3 (fun x3 S4 => u4 δ S4 (fun x4 S5 => u5 δ S5 (fun x5 S6 => (6 : Nat) ≤ 16777216 ∧ Q (.lst [x0, x1, x2, x3, x4, x5]) S6) E) E) E) E) E) E = _
  congr 1
  funext x0 S1
  congr 1
  funext x1 S2
  congr 1
  funext x2 S3
  congr 1
  funext x3 S4
  congr 1
  funext x4 S5
  congr 1
  funext x5 S6
  exact le_and (by omega)
theorem mTup_6 {u0 u1 u2 u3 u4 u5 : ME} {S0 : Store} : mTup (mCons u0 (mCons u1 (mCons u2 (mCons u3 (mCons u4 (mCons u5 mNil)))))) δ S0 Q E = u0 δ S0 (fun x0 S1 => u1 δ S1 (fun x1 S2 => u2 δ S2 (fun x2 S3 => u3 δ S3 (fun x3 S4 => u4 δ S4 (fun x4 S5 => u5 δ S5 (fun x5 S6 => Q (.tup [x0, x1, x2, x3, x4, x5]) S6) E) E) E) E) E) E := by
  show u0 δ S0 (fun x0 S1 => u1 δ S1 (fun x1 S2 => u2 δ S2 (fun x2 S3 => u3 δ S3 (fun x3 S4 => u4 δ S4 (fun x4 S5 => u5 δ S5 (fun x5 S6 => (6 : Nat) ≤ 16777216 ∧ Q (.tup [x0, x1, x2, x3, x4, x5]) S6) E) E) E) E) E) E = _
  congr 1
  funext x0 S1
  congr 1
  funext x1 S2
  congr 1
  funext x2 S3
  congr 1
  funext x3 S4
  congr 1
  funext x4 S5
  congr 1
  funext x5 S6
  exact le_and (by omega)
theorem atI_0 {d : DV} {ds : List DV} : atI (d :: ds) 0 = some d := by
  have := atI_at (l := d :: ds) (k := 0)
  simpa using this
theorem atI_1 {c d : DV} {ds : List DV} : atI (c :: d :: ds) 1 = some d := by
  have := atI_at (l := c :: d :: ds) (k := 1)
  simpa using this
theorem mLst_7 {u0 u1 u2 u3 u4 u5 u6 : ME} {S0 : Store} : mLst (mCons u0 (mCons u1 (mCons u2 (mCons u3 (mCons u4 (mCons u5 (mCons u6 mNil))))))) δ S0 Q E = u0 δ S0 (fun x0 S1 => u1 δ S1 (fun x1 S2 => u2 δ S2 (fun x2 S3 => u3 δ S3 (fun x3 S4 => u4 δ S4 (fun x4 S5 => u5 δ S5 (fun x5 S6 => u6 δ S6 (fun x6 S7 => Q (.lst [x0, x1, x2, x3, x4, x5, x6]) S7) E) E) E) E) E) E) E := by
  show u0 δ S0 (fun x0 S1 => u1 δ S1 (fun x1 S2 => u2 δ S2 (fun x2 S3 => u3 δ S3 (fun x3 S4 => u4 δ S4 (fun x4 S5 => u5 δ S5 (fun x5 S6 => u6 δ S6 (fun x6 S7 => (7 : Nat) ≤ 16777216 ∧ Q (.lst [x0, x1, x2, x3, x4, x5, x6]) S7) E) E) E) E) E) E) E = _
  congr 1
  funext x0 S1
  congr 1
  funext x1 S2
  congr 1
  funext x2 S3
  congr 1
  funext x3 S4
  congr 1
  funext x4 S5
  congr 1
  funext x5 S6
  congr 1
  funext x6 S7
  exact le_and (by omega)
theorem mLst_8 {u0 u1 u2 u3 u4 u5 u6 u7 : ME} {S0 : Store} : mLst (mCons u0 (mCons u1 (mCons u2 (mCons u3 (mCons u4 (mCons u5 (mCons u6 (mCons u7 mNil)))))))) δ S0 Q E = u0 δ S0 (fun x0 S1 => u1 δ S1 (fun x1 S2 => u2 δ S2 (fun x2 S3 => u3 δ S3 (fun x3 S4 => u4 δ S4 (fun x4 S5 => u5 δ S5 (fun x5 S6 => u6 δ S6 (fun x6 S7 => u7 δ S7 (fun x7 S8 => Q (.lst [x0, x1, x2, x3, x4, x5, x6, x7]) S8) E) E) E) E) E) E) E) E := by
  show u0 δ S0 (fun x0 S1 => u1 δ S1 (fun x1 S2 => u2 δ S2 (fun x2 S3 => u3 δ S3 (fun x3 S4 => u4 δ S4 (fun x4 S5 => u5 δ S5 (fun x5 S6 => u6 δ S6 (fun x6 S7 => u7 δ S7 (fun x7 S8 => (8 : Nat) ≤ 16777216 ∧ Q (.lst [x0, x1, x2, x3, x4, x5, x6, x7]) S8) E) E) E) E) E) E) E) E = _
  congr 1
  funext x0 S1
  congr 1
  funext x1 S2
  congr 1
  funext x2 S3
  congr 1
  funext x3 S4
  congr 1
  funext x4 S5
  congr 1
  funext x5 S6
  congr 1
  funext x6 S7
  congr 1
  funext x7 S8
  exact le_and (by omega)
theorem mLst_9 {u0 u1 u2 u3 u4 u5 u6 u7 u8 : ME} {S0 : Store} : mLst (mCons u0 (mCons u1 (mCons u2 (mCons u3 (mCons u4 (mCons u5 (mCons u6 (mCons u7 (mCons u8 mNil))))))))) δ S0 Q E = u0 δ S0 (fun x0 S1 => u1 δ S1 (fun x1 S2 => u2 δ S2 (fun x2 S3 => u3 δ S3 (fun x3 S4 => u4 δ S4 (fun x4 S5 => u5 δ S5 (fun x5 S6 => u6 δ S6 (fun x6 S7 => u7 δ S7 (fun x7 S8 => u8 δ S8 (fun x8 S9 => Q (.lst [x0, x1, x2, x3, x4, x5, x6, x7, x8]) S9) E) E) E) E) E) E) E) E) E := by
  show u0 δ S0 (fun x0 S1 => u1 δ S1 (fun x1 S2 => u2 δ S2 (fun x2 S3 => u3 δ S3 (fun x3 S4 => u4 δ S4 (fun x4 S5 => u5 δ S5 (fun x5 S6 => u6 δ S6 (fun x6 S7 => u7 δ S7 (fun x7 S8 => u8 δ S8 (fun x8 S9 => (9 : Nat) ≤ 16777216 ∧ Q (.lst [x0, x1, x2, x3, x4, x5, x6, x7, x8]) S9) E) E) E) E) E) E) E) E) E = _
  congr 1
  funext x0 S1
  congr 1
  funext x1 S2
  congr 1
  funext x2 S3
  congr 1
  funext x3 S4
  congr 1
  funext x4 S5
  congr 1
  funext x5 S6
  congr 1
  funext x6 S7
  congr 1
  funext x7 S8
  congr 1
  funext x8 S9
  exact le_and (by omega)
theorem mLst_10 {u0 u1 u2 u3 u4 u5 u6 u7 u8 u9 : ME} {S0 : Store} : mLst (mCons u0 (mCons u1 (mCons u2 (mCons u3 (mCons u4 (mCons u5 (mCons u6 (mCons u7 (mCons u8 (mCons u9 mNil)))))))))) δ S0 Q E = u0 δ S0 (fun x0 S1 => u1 δ S1 (fun x1 S2 => u2 δ S2 (fun x2 S3 => u3 δ S3 (fun x3 S4 => u4 δ S4 (fun x4 S5 => u5 δ S5 (fun x5 S6 => u6 δ S6 (fun x6 S7 => u7 δ S7 (fun x7 S8 => u8 δ S8 (fun x8 S9 => u9 δ S9 (fun x9 S10 => Q (.lst [x0, x1, x2, x3, x4, x5, x6, x7, x8, x9]) S10) E) E) E) E) E) E) E) E) E) E := by
  show u0 δ S0 (fun x0 S1 => u1 δ S1 (fun x1 S2 => u2 δ S2 (fun x2 S3 => u3 δ S3 (fun x3 S4 => u4 δ S4 (fun x4 S5 => u5 δ S5 (fun x5 S6 => u6 δ S6 (fun x6 S7 => u7 δ S7 (fun x7 S8 => u8 δ S8 (fun x8 S9 => u9 δ S9 (fun x9 S10 => (10 : Nat) ≤ 16777216 ∧ Q (.lst [x0, x1, x2, x3, x4, x5, x6, x7, x8, x9]) S10) E) E) E) E) E) E) E) E) E) E = _
  congr 1
  funext x0 S1
  congr 1
  funext x1 S2
  congr 1
  funext x2 S3
  congr 1
  funext x3 S4
  congr 1
  funext x4 S5
  congr 1
  funext x5 S6
  congr 1
  funext x6 S7
  congr 1
  funext x7 S8
  congr 1
  funext x8 S9
  congr 1
  funext x9 S10
  exact le_and (by omega)
theorem mLst_11 {u0 u1 u2 u3 u4 u5 u6 u7 u8 u9 u10 : ME} {S0 : Store} : mLst (mCons u0 (mCons u1 (mCons u2 (mCons u3 (mCons u4 (mCons u5 (mCons u6 (mCons u7 (mCons u8 (mCons u9 (mCons u10 mNil))))))))))) δ S0 Q E = u0 δ S0 (fun x0 S1 => u1 δ S1 (fun x1 S2 => u2 δ S2 (fun x2 S3 => u3 δ S3 (fun x3 S4 => u4 δ S4 (fun x4 S5 => u5 δ S5 (fun x5 S6 => u6 δ S6 (fun x6 S7 => u7 δ S7 (fun x7 S8 => u8 δ S8 (fun x8 S9 => u9 δ S9 (fun x9 S10 => u10 δ S10 (fun x10 S11 => Q (.lst [x0, x1, x2, x3, x4, x5, x6, x7, x8, x9, x10]) S11) E) E) E) E) E) E) E) E) E) E) E := by
  show u0 δ S0 (fun x0 S1 => u1 δ S1 (fun x1 S2 => u2 δ S2 (fun x2 S3 => u3 δ S3 (fun x3 S4 => u4 δ S4 (fun x4 S5 => u5 δ S5 (fun x5 S6 => u6 δ S6 (fun x6 S7 => u7 δ S7 (fun x7 S8 => u8 δ S8 (fun x8 S9 => u9 δ S9 (fun x9 S10 => u10 δ S10 (fun x10 S11 => (11 : Nat) ≤ 16777216 ∧ Q (.lst [x0, x1, x2, x3, x4, x5, x6, x7, x8, x9, x10]) S11) E) E) E) E) E) E) E) E) E) E) E = _
  congr 1
  funext x0 S1
  congr 1
  funext x1 S2
  congr 1
  funext x2 S3
  congr 1
  funext x3 S4
  congr 1
  funext x4 S5
  congr 1
  funext x5 S6
  congr 1
  funext x6 S7
  congr 1
  funext x7 S8
  congr 1
  funext x8 S9
  congr 1
  funext x9 S10
  congr 1
  funext x10 S11
  exact le_and (by omega)
theorem mLst_12 {u0 u1 u2 u3 u4 u5 u6 u7 u8 u9 u10 u11 : ME} {S0 : Store} : mLst (mCons u0 (mCons u1 (mCons u2 (mCons u3 (mCons u4 (mCons u5 (mCons u6 (mCons u7 (mCons u8 (mCons u9 (mCons u10 (mCons u11 mNil)))))))))))) δ S0 Q E = u0 δ S0 (fun x0 S1 => u1 δ S1 (fun x1 S2 => u2 δ S2 (fun x2 S3 => u3 δ S3 (fun x3 S4 => u4 δ S4 (fun x4 S5 => u5 δ S5 (fun x5 S6 => u6 δ S6 (fun x6 S7 => u7 δ S7 (fun x7 S8 => u8 δ S8 (fun x8 S9 => u9 δ S9 (fun x9 S10 => u10 δ S10 (fun x10 S11 => u11 δ S11 (fun x11 S12 => Q (.lst [x0, x1, x2, x3, x4, x5, x6, x7, x8, x9, x10, x11]) S12) E) E) E) E) E) E) E) E) E) E) E) E := by
  show u0 δ S0 (fun x0 S1 => u1 δ S1 (fun x1 S2 => u2 δ S2 (fun x2 S3 => u3 δ S3 (fun x3 S4 => u4 δ S4 (fun x4 S5 => u5 δ S5 (fun x5 S6 => u6 δ S6 (fun x6 S7 => u7 δ S7 (fun x7 S8 => u8 δ S8 (fun x8 S9 => u9 δ S9 (fun x9 S10 => u10 δ S10 (fun x10 S11 => u11 δ S11 (fun x11 S12 => (12 : Nat) ≤ 16777216 ∧ Q (.lst [x0, x1, x2, x3, x4, x5, x6, x7, x8, x9, x10, x11]) S12) E) E) E) E) E) E) E) E) E) E) E) E = _
  congr 1
  funext x0 S1
  congr 1
  funext x1 S2
  congr 1
  funext x2 S3
  congr 1
  funext x3 S4
  congr 1
  funext x4 S5
  congr 1
  funext x5 S6
  congr 1
  funext x6 S7
  congr 1
  funext x7 S8
  congr 1
  funext x8 S9
  congr 1
  funext x9 S10
  congr 1
  funext x10 S11
  congr 1
  funext x11 S12
  exact le_and (by omega)
theorem mLst_13 {u0 u1 u2 u3 u4 u5 u6 u7 u8 u9 u10 u11 u12 : ME} {S0 : Store} : mLst (mCons u0 (mCons u1 (mCons u2 (mCons u3 (mCons u4 (mCons u5 (mCons u6 (mCons u7 (mCons u8 (mCons u9 (mCons u10 (mCons u11 (mCons u12 mNil))))))))))))) δ S0 Q E = u0 δ S0 (fun x0 S1 => u1 δ S1 (fun x1 S2 => u2 δ S2 (fun x2 S3 => u3 δ S3 (fun x3 S4 => u4 δ S4 (fun x4 S5 => u5 δ S5 (fun x5 S6 => u6 δ S6 (fun x6 S7 => u7 δ S7 (fun x7 S8 => u8 δ S8 (fun x8 S9 => u9 δ S9 (fun x9 S10 => u10 δ S10 (fun x10 S11 => u11 δ S11 (fun x11 S12 => u12 δ S12 (fun x12 S13 => Q (.lst [x0, x1, x2, x3, x4, x5, x6, x7, x8, x9, x10, x11, x12]) S13) E) E) E) E) E) E) E) E) E) E) E) E) E := by
  show u0 δ S0 (fun x0 S1 => u1 δ S1 (fun x1 S2 => u2 δ S2 (fun x2 S3 => u3 δ S3 (fun x3 S4 => u4 δ S4 (fun x4 S5 => u5 δ S5 (fun x5 S6 => u6 δ S6 (fun x6 S7 => u7 δ S7 (fun x7 S8 => u8 δ S8 (fun x8 S9 => u9 δ S9 (fun x9 S10 => u10 δ S10 (fun x10 S11 => u11 δ S11 (fun x11 S12 => u12 δ S12 (fun x12 S13 => (13 : Nat) ≤ 16777216 ∧ Q (.lst [x0, x1, x2, x3, x4, x5, x6, x7, x8, x9, x10, x11, x12]) S13) E) E) E) E) E) E) E) E) E) E) E) E) E = _
  congr 1
  funext x0 S1
  congr 1
  funext x1 S2
  congr 1
  funext x2 S3
  congr 1
  funext x3 S4
  congr 1
  funext x4 S5
  congr 1
  funext x5 S6
  congr 1
  funext x6 S7
  congr 1
  funext x7 S8
  congr 1
  funext x8 S9
  congr 1
  funext x9 S10
  congr 1
  funext x10 S11
  congr 1
  funext x11 S12
  congr 1
  funext x12 S13
  exact le_and (by omega)
theorem mLst_14 {u0 u1 u2 u3 u4 u5 u6 u7 u8 u9 u10 u11 u12 u13 : ME} {S0 : Store} : mLst (mCons u0 (mCons u1 (mCons u2 (mCons u3 (mCons u4 (mCons u5 (mCons u6 (mCons u7 (mCons u8 (mCons u9 (mCons u10 (mCons u11 (mCons u12 (mCons u13 mNil)))))))))))))) δ S0 Q E = u0 δ S0 (fun x0 S1 => u1 δ S1 (fun x1 S2 => u2 δ S2 (fun x2 S3 => u3 δ S3 (fun x3 S4 => u4 δ S4 (fun x4 S5 => u5 δ S5 (fun x5 S6 => u6 δ S6 (fun x6 S7 => u7 δ S7 (fun x7 S8 => u8 δ S8 (fun x8 S9 => u9 δ S9 (fun x9 S10 => u10 δ S10 (fun x10 S11 => u11 δ S11 (fun x11 S12 => u12 δ S12 (fun x12 S13 => u13 δ S13 (fun x13 S14 => Q (.lst [x0, x1, x2, x3, x4, x5, x6, x7, x8, x9, x10, x11, x12, x13]) S14) E) E) E) E) E) E) E) E) E) E) E) E) E) E := by
  show u0 δ S0 (fun x0 S1 => u1 δ S1 (fun x1 S2 => u2 δ S2 (fun x2 S3 => u3 δ S3 (fun x3 S4 => u4 δ S4 (fun x4 S5 => u5 δ S5 (fun x5 S6 => u6 δ S6 (fun x6 S7 => u7 δ S7 (fun x7 S8 => u8 δ S8 (fun x8 S9 => u9 δ S9 (fun x9 S10 => u10 δ S10 (fun x10 S11 => u11 δ S11 (fun x11 S12 => u12 δ S12 (fun x12 S13 => u13 δ S13 (fun x13 S14 => (14 : Nat) ≤ 16777216 ∧ Q (.lst [x0, x1, x2, x3, x4, x5, x6, x7, x8, x9, x10, x11, x12, x13]) S14) E) E) E) E) E) E) E) E) E) E) E) E) E) E = _
  congr 1
  funext x0 S1
  congr 1
  funext x1 S2
  congr 1
  funext x2 S3
  congr 1
  funext x3 S4
  congr 1
  funext x4 S5
  congr 1
  funext x5 S6
  congr 1
  funext x6 S7
  congr 1
  funext x7 S8
  congr 1
  funext x8 S9
  congr 1
  funext x9 S10
  congr 1
  funext x10 S11
  congr 1
  funext x11 S12
  congr 1
  funext x12 S13
  congr 1
  funext x13 S14
  exact le_and (by omega)
theorem mLst_15 {u0 u1 u2 u3 u4 u5 u6 u7 u8 u9 u10 u11 u12 u13 u14 : ME} {S0 : Store} : mLst (mCons u0 (mCons u1 (mCons u2 (mCons u3 (mCons u4 (mCons u5 (mCons u6 (mCons u7 (mCons u8 (mCons u9 (mCons u10 (mCons u11 (mCons u12 (mCons u13 (mCons u14 mNil))))))))))))))) δ S0 Q E = u0 δ S0 (fun x0 S1 => u1 δ S1 (fun x1 S2 => u2 δ S2 (fun x2 S3 => u3 δ S3 (fun x3 S4 => u4 δ S4 (fun x4 S5 => u5 δ S5 (fun x5 S6 => u6 δ S6 (fun x6 S7 => u7 δ S7 (fun x7 S8 => u8 δ S8 (fun x8 S9 => u9 δ S9 (fun x9 S10 => u10 δ S10 (fun x10 S11 => u11 δ S11 (fun x11 S12 => u12 δ S12 (fun x12 S13 => u13 δ S13 (fun x13 S14 => u14 δ S14 (fun x14 S15 => Q (.lst [x0, x1, x2, x3, x4, x5, x6, x7, x8, x9, x10, x11, x12, x13, x14]) S15) E) E) E) E) E) E) E) E) E) E) E) E) E) E) E := by
  show u0 δ S0 (fun x0 S1 => u1 δ S1 (fun x1 S2 => u2 δ S2 (fun x2 S3 => u3 δ S3 (fun x3 S4 => u4 δ S4 (fun x4 S5 => u5 δ S5 (fun x5 S6 => u6 δ S6 (fun x6 S7 => u7 δ S7 (fun x7 S8 => u8 δ S8 (fun x8 S9 => u9 δ S9 (fun x9 S10 => u10 δ S10 (fun x10 S11 => u11 δ S11 (fun x11 S12 => u12 δ S12 (fun x12 S13 => u13 δ S13 (fun x13 S14 => u14 δ S14 (fun x14 S15 => (15 : Nat) ≤ 16777216 ∧ Q (.lst [x0, x1, x2, x3, x4, x5, x6, x7, x8, x9, x10, x11, x12, x13, x14]) S15) E) E) E) E) E) E) E) E) E) E) E) E) E) E) E = _
  congr 1
  funext x0 S1
  congr 1
  funext x1 S2
  congr 1
  funext x2 S3
  congr 1
  funext x3 S4
  congr 1
  funext x4 S5
  congr 1
  funext x5 S6
  congr 1
  funext x6 S7
  congr 1
  funext x7 S8
  congr 1
  funext x8 S9
  congr 1
  funext x9 S10
  congr 1
  funext x10 S11
  congr 1
  funext x11 S12
  congr 1
  funext x12 S13
  congr 1
  funext x13 S14
  congr 1
  funext x14 S15
  exact le_and (by omega)
theorem mLst_16 {u0 u1 u2 u3 u4 u5 u6 u7 u8 u9 u10 u11 u12 u13 u14 u15 : ME} {S0 : Store} : mLst (mCons u0 (mCons u1 (mCons u2 (mCons u3 (mCons u4 (mCons u5 (mCons u6 (mCons u7 (mCons u8 (mCons u9 (mCons u10 (mCons u11 (mCons u12 (mCons u13 (mCons u14 (mCons u15 mNil)))))))))))))))) δ S0 Q E = u0 δ S0 (fun x0 S1 => u1 δ S1 (fun x1 S2 => u2 δ S2 (fun x2 S3 => u3 δ S3 (fun x3 S4 => u4 δ S4 (fun x4 S5 => u5 δ S5 (fun x5 S6 => u6 δ S6 (fun x6 S7 => u7 δ S7 (fun x7 S8 => u8 δ S8 (fun x8 S9 => u9 δ S9 (fun x9 S10 => u10 δ S10 (fun x10 S11 => u11 δ S11 (fun x11 S12 => u12 δ S12 (fun x12 S13 => u13 δ S13 (fun x13 S14 => u14 δ S14 (fun x14 S15 => u15 δ S15 (fun x15 S16 => Q (.lst [x0, x1, x2, x3, x4, x5, x6, x7, x8, x9, x10, x11, x12, x13, x14, x15]) S16) E) E) E) E) E) E) E) E) E) E) E) E) E) E) E) E := by
  show u0 δ S0 (fun x0 S1 => u1 δ S1 (fun x1 S2 => u2 δ S2 (fun x2 S3 => u3 δ S3 (fun x3 S4 => u4 δ S4 (fun x4 S5 => u5 δ S5 (fun x5 S6 => u6 δ S6 (fun x6 S7 => u7 δ S7 (fun x7 S8 => u8 δ S8 (fun x8 S9 => u9 δ S9 (fun x9 S10 => u10 δ S10 (fun x10 S11 => u11 δ S11 (fun x11 S12 => u12 δ S12 (fun x12 S13 => u13 δ S13 (fun x13 S14 => u14 δ S14 (fun x14 S15 => u15 δ S15 (fun x15 S16 => (16 : Nat) ≤ 16777216 ∧ Q (.lst [x0, x1, x2, x3, x4, x5, x6, x7, x8, x9, x10, x11, x12, x13, x14, x15]) S16) E) E) E) E) E) E) E) E) E) E) E) E) E) E) E) E = _
  congr 1
  funext x0 S1
  congr 1
  funext x1 S2
  congr 1
  funext x2 S3
  congr 1
  funext x3 S4
  congr 1
  funext x4 S5
  congr 1
  funext x5 S6
  congr 1
  funext x6 S7
  congr 1
  funext x7 S8
  congr 1
  funext x8 S9
  congr 1
  funext x9 S10
  congr 1
  funext x10 S11
  congr 1
  funext x11 S12
  congr 1
  funext x12 S13
  congr 1
  funext x13 S14
  congr 1
  funext x14 S15
  congr 1
  funext x15 S16
  exact le_and (by omega)
theorem mLst_17 {u0 u1 u2 u3 u4 u5 u6 u7 u8 u9 u10 u11 u12 u13 u14 u15 u16 : ME} {S0 : Store} : mLst (mCons u0 (mCons u1 (mCons u2 (mCons u3 (mCons u4 (mCons u5 (mCons u6 (mCons u7 (mCons u8 (mCons u9 (mCons u10 (mCons u11 (mCons u12 (mCons u13 (mCons u14 (mCons u15 (mCons u16 mNil))))))))))))))))) δ S0 Q E = u0 δ S0 (fun x0 S1 => u1 δ S1 (fun x1 S2 => u2 δ S2 (fun x2 S3 => u3 δ S3 (fun x3 S4 => u4 δ S4 (fun x4 S5 => u5 δ S5 (fun x5 S6 => u6 δ S6 (fun x6 S7 => u7 δ S7 (fun x7 S8 => u8 δ S8 (fun x8 S9 => u9 δ S9 (fun x9 S10 => u10 δ S10 (fun x10 S11 => u11 δ S11 (fun x11 S12 => u12 δ S12 (fun x12 S13 => u13 δ S13 (fun x13 S14 => u14 δ S14 (fun x14 S15 => u15 δ S15 (fun x15 S16 => u16 δ S16 (fun x16 S17 => Q (.lst [x0, x1, x2, x3, x4, x5, x6, x7, x8, x9, x10, x11, x12, x13, x14, x15, x16]) S17) E) E) E) E) E) E) E) E) E) E) E) E) E) E) E) E) E := by
  show u0 δ S0 (fun x0 S1 => u1 δ S1 (fun x1 S2 => u2 δ S2 (fun x2 S3 => u3 δ S3 (fun x3 S4 => u4 δ S4 (fun x4 S5 => u5 δ S5 (fun x5 S6 => u6 δ S6 (fun x6 S7 => u7 δ S7 (fun x7 S8 => u8 δ S8 (fun x8 S9 => u9 δ S9 (fun x9 S10 => u10 δ S10 (fun x10 S11 => u11 δ S11 (fun x11 S12 => u12 δ S12 (fun x12 S13 => u13 δ S13 (fun x13 S14 => u14 δ S14 (fun x14 S15 => u15 δ S15 (fun x15 S16 => u16 δ S16 (fun x16 S17 => (17 : Nat) ≤ 16777216 ∧ Q (.lst [x0, x1, x2, x3, x4, x5, x6, x7, x8, x9, x10, x11, x12, x13, x14, x15, x16]) S17) E) E) E) E) E) E) E) E) E) E) E) E) E) E) E) E) E = _
  congr 1
  funext x0 S1
  congr 1
  funext x1 S2
  congr 1
  funext x2 S3
  congr 1
  funext x3 S4
  congr 1
  funext x4 S5
  congr 1
  funext x5 S6
  congr 1
  funext x6 S7
  congr 1
  funext x7 S8
  congr 1
  funext x8 S9
  congr 1
  funext x9 S10
  congr 1
  funext x10 S11
  congr 1
  funext x11 S12
  congr 1
  funext x12 S13
  congr 1
  funext x13 S14
  congr 1
  funext x14 S15
  congr 1
  funext x15 S16
  congr 1
  funext x16 S17
  exact le_and (by omega)
theorem mLst_18 {u0 u1 u2 u3 u4 u5 u6 u7 u8 u9 u10 u11 u12 u13 u14 u15 u16 u17 : ME} {S0 : Store} : mLst (mCons u0 (mCons u1 (mCons u2 (mCons u3 (mCons u4 (mCons u5 (mCons u6 (mCons u7 (mCons u8 (mCons u9 (mCons u10 (mCons u11 (mCons u12 (mCons u13 (mCons u14 (mCons u15 (mCons u16 (mCons u17 mNil)))))))))))))))))) δ S0 Q E = u0 δ S0 (fun x0 S1 => u1 δ S1 (fun x1 S2 => u2 δ S2 (fun x2 S3 => u3 δ S3 (fun x3 S4 => u4 δ S4 (fun x4 S5 => u5 δ S5 (fun x5 S6 => u6 δ S6 (fun x6 S7 => u7 δ S7 (fun x7 S8 => u8 δ S8 (fun x8 S9 => u9 δ S9 (fun x9 S10 => u10 δ S10 (fun x10 S11 => u11 δ S11 (fun x11 S12 => u12 δ S12 (fun x12 S13 => u13 δ S13 (fun x13 S14 => u14 δ S14 (fun x14 S15 => u15 δ S15 (fun x15 S16 => u16 δ S16 (fun x16 S17 => u17 δ S17 (fun x17 S18 => Q (.lst [x0, x1, x2, x3, x4, x5, x6, x7, x8, x9, x10, x11, x12, x13, x14, x15, x16, x17]) S18) E) E) E) E) E) E) E) E) E) E) E) E) E) E) E) E) E) E := by
  show u0 δ S0 (fun x0 S1 => u1 δ S1 (fun x1 S2 => u2 δ S2 (fun x2 S3 => u3 δ S3 (fun x3 S4 => u4 δ S4 (fun x4 S5 => u5 δ S5 (fun x5 S6 => u6 δ S6 (fun x6 S7 => u7 δ S7 (fun x7 S8 => u8 δ S8 (fun x8 S9 => u9 δ S9 (fun x9 S10 => u10 δ S10 (fun x10 S11 => u11 δ S11 (fun x11 S12 => u12 δ S12 (fun x12 S13 => u13 δ S13 (fun x13 S14 => u14 δ S14 (fun x14 S15 => u15 δ S15 (fun x15 S16 => u16 δ S16 (fun x16 S17 => u17 δ S17 (fun x17 S18 => (18 : Nat) ≤ 16777216 ∧ Q (.lst [x0, x1, x2, x3, x4, x5, x6, x7, x8, x9, x10, x11, x12, x13, x14, x15, x16, x17]) S18) E) E) E) E) E) E) E) E) E) E) E) E) E) E) E) E) E) E = _
  congr 1
  funext x0 S1
  congr 1
  funext x1 S2
  congr 1
  funext x2 S3
  congr 1
  funext x3 S4
  congr 1
  funext x4 S5
  congr 1
  funext x5 S6
  congr 1
  funext x6 S7
  congr 1
  funext x7 S8
  congr 1
  funext x8 S9
  congr 1
  funext x9 S10
  congr 1
  funext x10 S11
  congr 1
  funext x11 S12
  congr 1
  funext x12 S13
  congr 1
  funext x13 S14
  congr 1
  funext x14 S15
  congr 1
  funext x15 S16
  congr 1
  funext x16 S17
  congr 1
  funext x17 S18
  exact le_and (by omega)
theorem mLst_19 {u0 u1 u2 u3 u4 u5 u6 u7 u8 u9 u10 u11 u12 u13 u14 u15 u16 u17 u18 : ME} {S0 : Store} : mLst (mCons u0 (mCons u1 (mCons u2 (mCons u3 (mCons u4 (mCons u5 (mCons u6 (mCons u7 (mCons u8 (mCons u9 (mCons u10 (mCons u11 (mCons u12 (mCons u13 (mCons u14 (mCons u15 (mCons u16 (mCons u17 (mCons u18 mNil))))))))))))))))))) δ S0 Q E = u0 δ S0 (fun x0 S1 => u1 δ S1 (fun x1 S2 => u2 δ S2 (fun x2 S3 => u3 δ S3 (fun x3 S4 => u4 δ S4 (fun x4 S5 => u5 δ S5 (fun x5 S6 => u6 δ S6 (fun x6 S7 => u7 δ S7 (fun x7 S8 => u8 δ S8 (fun x8 S9 => u9 δ S9 (fun x9 S10 => u10 δ S10 (fun x10 S11 => u11 δ S11 (fun x11 S12 => u12 δ S12 (fun x12 S13 => u13 δ S13 (fun x13 S14 => u14 δ S14 (fun x14 S15 => u15 δ S15 (fun x15 S16 => u16 δ S16 (fun x16 S17 => u17 δ S17 (fun x17 S18 => u18 δ S18 (fun x18 S19 => Q (.lst [x0, x1, x2, x3, x4, x5, x6, x7, x8, x9, x10, x11, x12, x13, x14, x15, x16, x17, x18]) S19) E) E) E) E) E) E) E) E) E) E) E) E) E) E) E) E) E) E) E := by
  show u0 δ S0 (fun x0 S1 => u1 δ S1 (fun x1 S2 => u2 δ S2 (fun x2 S3 => u3 δ S3 (fun x3 S4 => u4 δ S4 (fun x4 S5 => u5 δ S5 (fun x5 S6 => u6 δ S6 (fun x6 S7 => u7 δ S7 (fun x7 S8 => u8 δ S8 (fun x8 S9 => u9 δ S9 (fun x9 S10 => u10 δ S10 (fun x10 S11 => u11 δ S11 (fun x11 S12 => u12 δ S12 (fun x12 S13 => u13 δ S13 (fun x13 S14 => u14 δ S14 (fun x14 S15 => u15 δ S15 (fun x15 S16 => u16 δ S16 (fun x16 S17 => u17 δ S17 (fun x17 S18 => u18 δ S18 (fun x18 S19 => (19 : Nat) ≤ 16777216 ∧ Q (.lst [x0, x1, x2, x3, x4, x5, x6, x7, x8, x9, x10, x11, x12, x13, x14, x15, x16, x17, x18]) S19) E) E) E) E) E) E) E) E) E) E) E) E) E) E) E) E) E) E) E = _
  congr 1
  funext x0 S1
  congr 1
  funext x1 S2
  congr 1
  funext x2 S3
  congr 1
  funext x3 S4
  congr 1
  funext x4 S5
  congr 1
  funext x5 S6
  congr 1
  funext x6 S7
  congr 1
  funext x7 S8
  congr 1
  funext x8 S9
  congr 1
  funext x9 S10
  congr 1
  funext x10 S11
  congr 1
  funext x11 S12
  congr 1
  funext x12 S13
  congr 1
  funext x13 S14
  congr 1
  funext x14 S15
  congr 1
  funext x15 S16
  congr 1
  funext x16 S17
  congr 1
  funext x17 S18
  congr 1
  funext x18 S19
  exact le_and (by omega)
theorem mLst_20 {u0 u1 u2 u3 u4 u5 u6 u7 u8 u9 u10 u11 u12 u13 u14 u15 u16 u17 u18 u19 : ME} {S0 : Store} : mLst (mCons u0 (mCons u1 (mCons u2 (mCons u3 (mCons u4 (mCons u5 (mCons u6 (mCons u7 (mCons u8 (mCons u9 (mCons u10 (mCons u11 (mCons u12 (mCons u13 (mCons u14 (mCons u15 (mCons u16 (mCons u17 (mCons u18 (mCons u19 mNil)))))))))))))))))))) δ S0 Q E = u0 δ S0 (fun x0 S1 => u1 δ S1 (fun x1 S2 => u2 δ S2 (fun x2 S3 => u3 δ S3 (fun x3 S4 => u4 δ S4 (fun x4 S5 => u5 δ S5 (fun x5 S6 => u6 δ S6 (fun x6 S7 => u7 δ S7 (fun x7 S8 => u8 δ S8 (fun x8 S9 => u9 δ S9 (fun x9 S10 => u10 δ S10 (fun x10 S11 => u11 δ S11 (fun x11 S12 => u12 δ S12 (fun x12 S13 => u13 δ S13 (fun x13 S14 => u14 δ S14 (fun x14 S15 => u15 δ S15 (fun x15 S16 => u16 δ S16 (fun x16 S17 => u17 δ S17 (fun x17 S18 => u18 δ S18 (fun x18 S19 => u19 δ S19 (fun x19 S20 => Q (.lst [x0, x1, x2, x3, x4, x5, x6, x7, x8, x9, x10, x11, x12, x13, x14, x15, x16, x17, x18, x19]) S20) E) E) E) E) E) E) E) E) E) E) E) E) E) E) E) E) E) E) E) E := by
  show u0 δ S0 (fun x0 S1 => u1 δ S1 (fun x1 S2 => u2 δ S2 (fun x2 S3 => u3 δ S3 (fun x3 S4 => u4 δ S4 (fun x4 S5 => u5 δ S5 (fun x5 S6 => u6 δ S6 (fun x6 S7 => u7 δ S7 (fun x7 S8 => u8 δ S8 (fun x8 S9 => u9 δ S9 (fun x9 S10 => u10 δ S10 (fun x10 S11 => u11 δ S11 (fun x11 S12 => u12 δ S12 (fun x12 S13 => u13 δ S13 (fun x13 S14 => u14 δ S14 (fun x14 S15 => u15 δ S15 (fun x15 S16 => u16 δ S16 (fun x16 S17 => u17 δ S17 (fun x17 S18 => u18 δ S18 (fun x18 S19 => u19 δ S19 (fun x19 S20 => (20 : Nat) ≤ 16777216 ∧ Q (.lst [x0, x1, x2, x3, x4, x5, x6, x7, x8, x9, x10, x11, x12, x13, x14, x15, x16, x17, x18, x19]) S20) E) E) E) E) E) E) E) E) E) E) E) E) E) E) E) E) E) E) E) E = _
  congr 1
  funext x0 S1
  congr 1
  funext x1 S2
  congr 1
  funext x2 S3
  congr 1
  funext x3 S4
  congr 1
  funext x4 S5
  congr 1
  funext x5 S6
  congr 1
  funext x6 S7
  congr 1
  funext x7 S8
  congr 1
  funext x8 S9
  congr 1
  funext x9 S10
  congr 1
  funext x10 S11
  congr 1
  funext x11 S12
  congr 1
  funext x12 S13
  congr 1
  funext x13 S14
  congr 1
  funext x14 S15
  congr 1
  funext x15 S16
  congr 1
  funext x16 S17
  congr 1
  funext x17 S18
  congr 1
  funext x18 S19
  congr 1
  funext x19 S20
  exact le_and (by omega)
theorem gIsi_non_int : gIsi [.non, .ty "int"] S Q = Q (.bl false) S := gIsi_of rfl (by decide +kernel)
theorem gIsi_non_bool : gIsi [.non, .ty "bool"] S Q = Q (.bl false) S := gIsi_of rfl (by decide +kernel)
theorem gIsi_non_tuple : gIsi [.non, .ty "tuple"] S Q = Q (.bl false) S := gIsi_of rfl (by decide +kernel)
theorem gIsi_non_str : gIsi [.non, .ty "str"] S Q = Q (.bl false) S := gIsi_of rfl (by decide +kernel)
theorem gIsi_non_list : gIsi [.non, .ty "list"] S Q = Q (.bl false) S := gIsi_of rfl (by decide +kernel)
theorem fIs_non : fIs q .non .non S Q = Q (.bl (q true)) S := by
  show (DV.non = .non ∧ Q (.bl (q true)) S) = _
  rw [eq_self, true_and]
theorem gIsi_bl_int : gIsi [(.bl b), .ty "int"] S Q = Q (.bl true) S := gIsi_of rfl (by decide +kernel)
theorem gIsi_bl_bool : gIsi [(.bl b), .ty "bool"] S Q = Q (.bl true) S := gIsi_of rfl (by decide +kernel)
theorem gIsi_bl_tuple : gIsi [(.bl b), .ty "tuple"] S Q = Q (.bl false) S := gIsi_of rfl (by decide +kernel)
theorem gIsi_bl_str : gIsi [(.bl b), .ty "str"] S Q = Q (.bl false) S := gIsi_of rfl (by decide +kernel)
theorem gIsi_bl_list : gIsi [(.bl b), .ty "list"] S Q = Q (.bl false) S := gIsi_of rfl (by decide +kernel)
theorem fIs_bl : fIs q (.bl b) .non S Q = Q (.bl (q false)) S := by
  show (DV.non = .non ∧ Q (.bl (q false)) S) = _
  rw [eq_self, true_and]
theorem gIsi_int_int : gIsi [(.int i), .ty "int"] S Q = Q (.bl true) S := gIsi_of rfl (by decide +kernel)
theorem gIsi_int_bool : gIsi [(.int i), .ty "bool"] S Q = Q (.bl false) S := gIsi_of rfl (by decide +kernel)
theorem gIsi_int_tuple : gIsi [(.int i), .ty "tuple"] S Q = Q (.bl false) S := gIsi_of rfl (by decide +kernel)
theorem gIsi_int_str : gIsi [(.int i), .ty "str"] S Q = Q (.bl false) S := gIsi_of rfl (by decide +kernel)
theorem gIsi_int_list : gIsi [(.int i), .ty "list"] S Q = Q (.bl false) S := gIsi_of rfl (by decide +kernel)
theorem fIs_int : fIs q (.int i) .non S Q = Q (.bl (q false)) S := by
  show (DV.non = .non ∧ Q (.bl (q false)) S) = _
  rw [eq_self, true_and]
theorem gIsi_str_int : gIsi [(.str x), .ty "int"] S Q = Q (.bl false) S := gIsi_of rfl (by decide +kernel)
theorem gIsi_str_bool : gIsi [(.str x), .ty "bool"] S Q = Q (.bl false) S := gIsi_of rfl (by decide +kernel)
theorem gIsi_str_tuple : gIsi [(.str x), .ty "tuple"] S Q = Q (.bl false) S := gIsi_of rfl (by decide +kernel)
theorem gIsi_str_str : gIsi [(.str x), .ty "str"] S Q = Q (.bl true) S := gIsi_of rfl (by decide +kernel)
theorem gIsi_str_list : gIsi [(.str x), .ty "list"] S Q = Q (.bl false) S := gIsi_of rfl (by decide +kernel)
theorem fIs_str : fIs q (.str x) .non S Q = Q (.bl (q false)) S := by
  show (DV.non = .non ∧ Q (.bl (q false)) S) = _
  rw [eq_self, true_and]
theorem gIsi_tup_int : gIsi [(.tup ds), .ty "int"] S Q = Q (.bl false) S := gIsi_of rfl (by decide +kernel)
theorem gIsi_tup_bool : gIsi [(.tup ds), .ty "bool"] S Q = Q (.bl false) S := gIsi_of rfl (by decide +kernel)
theorem gIsi_tup_tuple : gIsi [(.tup ds), .ty "tuple"] S Q = Q (.bl true) S := gIsi_of rfl (by decide +kernel)
theorem gIsi_tup_str : gIsi [(.tup ds), .ty "str"] S Q = Q (.bl false) S := gIsi_of rfl (by decide +kernel)
theorem gIsi_tup_list : gIsi [(.tup ds), .ty "list"] S Q = Q (.bl false) S := gIsi_of rfl (by decide +kernel)
theorem fIs_tup : fIs q (.tup ds) .non S Q = Q (.bl (q false)) S := by
  show (DV.non = .non ∧ Q (.bl (q false)) S) = _
  rw [eq_self, true_and]
theorem gIsi_lst_int : gIsi [(.lst ds), .ty "int"] S Q = Q (.bl false) S := gIsi_of rfl (by decide +kernel)
theorem gIsi_lst_bool : gIsi [(.lst ds), .ty "bool"] S Q = Q (.bl false) S := gIsi_of rfl (by decide +kernel)
theorem gIsi_lst_tuple : gIsi [(.lst ds), .ty "tuple"] S Q = Q (.bl false) S := gIsi_of rfl (by decide +kernel)
theorem gIsi_lst_str : gIsi [(.lst ds), .ty "str"] S Q = Q (.bl false) S := gIsi_of rfl (by decide +kernel)
theorem gIsi_lst_list : gIsi [(.lst ds), .ty "list"] S Q = Q (.bl true) S := gIsi_of rfl (by decide +kernel)
theorem fIs_lst : fIs q (.lst ds) .non S Q = Q (.bl (q false)) S := by
  show (DV.non = .non ∧ Q (.bl (q false)) S) = _
  rw [eq_self, true_and]
theorem gIsi_frz_int : gIsi [(.frz ds), .ty "int"] S Q = Q (.bl false) S := gIsi_of rfl (by decide +kernel)
theorem gIsi_frz_bool : gIsi [(.frz ds), .ty "bool"] S Q = Q (.bl false) S := gIsi_of rfl (by decide +kernel)
theorem gIsi_frz_tuple : gIsi [(.frz ds), .ty "tuple"] S Q = Q (.bl false) S := gIsi_of rfl (by decide +kernel)
theorem gIsi_frz_str : gIsi [(.frz ds), .ty "str"] S Q = Q (.bl false) S := gIsi_of rfl (by decide +kernel)
theorem gIsi_frz_list : gIsi [(.frz ds), .ty "list"] S Q = Q (.bl true) S := gIsi_of rfl (by decide +kernel)
theorem fIs_frz : fIs q (.frz ds) .non S Q = Q (.bl (q false)) S := by
  show (DV.non = .non ∧ Q (.bl (q false)) S) = _
  rw [eq_self, true_and]
theorem gIsi_dct_int : gIsi [.dct, .ty "int"] S Q = Q (.bl false) S := gIsi_of rfl (by decide +kernel)
theorem gIsi_dct_bool : gIsi [.dct, .ty "bool"] S Q = Q (.bl false) S := gIsi_of rfl (by decide +kernel)
theorem gIsi_dct_tuple : gIsi [.dct, .ty "tuple"] S Q = Q (.bl false) S := gIsi_of rfl (by decide +kernel)
theorem gIsi_dct_str : gIsi [.dct, .ty "str"] S Q = Q (.bl false) S := gIsi_of rfl (by decide +kernel)
theorem gIsi_dct_list : gIsi [.dct, .ty "list"] S Q = Q (.bl false) S := gIsi_of rfl (by decide +kernel)
theorem fIs_dct : fIs q .dct .non S Q = Q (.bl (q false)) S := by
  show (DV.non = .non ∧ Q (.bl (q false)) S) = _
  rw [eq_self, true_and]
end DL
namespace LB
open PySem PySem.Spec PyProof.Rows L2 DL PySem.W
theorem draw_ok {t : Nat} {R S : Store} {many : Int} {Q : MK DV} {E : MX} (D : Dk t R S) (hm : 0 < many) (hm2 : many < 2 ^ 64) (ht : t < 1099511627776) (q : ∀ S' d, Dk (t + 1) R S' → 0 ≤ d → d < many → Q (.int d) S') : m__law_draw [.ref 1, .int many] S Q E := by
  obtain ⟨cells, rests, rfl, hl, h0⟩ := D
  have hk : t % cells.length < cells.length := Nat.mod_lt _ h0
  have hlog : many.natAbs.log2 < 9000 := by
    have h1 : many.natAbs < 2 ^ 64 := by omega
    have h2 : many.natAbs.log2 < 64 := by
      rw [Nat.log2_lt (by omega)]
      exact h1
    omega
  have em : ((t : Int) % (cells.length : Int)) = ((t % cells.length : Nat) : Int) := by omega
  have e2 : ixN (0 + 1 + 1 + 1) 1 = some 1 := rfl
  have e3 : atI (intsV rests) ((t % cells.length : Nat) : Int) = some (.int (rests.getD (t % cells.length) 0)) := atI_ints (by omega)
  have e4 : atI (intsV cells) ((t % cells.length : Nat) : Int) = some (.int (cells.getD (t % cells.length) 0)) := atI_ints hk
  have e5 : ixN rests.length ((t % cells.length : Nat) : Int) = some (t % cells.length) := ixN_of (by omega)
  have done : ∀ (rests' : List Int) (d : Int), rests'.length = rests.length → 0 ≤ d → d < many → Q (.int d) (some (.lst (intsV rests')) :: some (.lst [.lst (intsV cells), .int ((t : Int) + 1), .ref 0]) :: R) := fun rests' d e h1 h2 => q _ d ⟨cells, rests', by rw [show ((t + 1 : Nat) : Int) = (t : Int) + 1 by omega], by omega, h0⟩ h1 h2
  generalize t % cells.length = k at *
  generalize hc : cells.getD k 0 = c at *
  simp only [app4 m__law_draw_e, app3 b__law_draw_e, app3 r__law_draw_1_e, app3 r__law_draw_2_e, app3 r__law_draw_3_e, app3 r__law_draw_4_e, app3 r__law_draw_5_e, app3 r__law_draw_6_e, app3 r__law_draw_7_e, app3 r__law_draw_8_e, mBody, startD, mNext, mSeq, mExpr, mRet, mRetN, mIfS, mBreak, mCont, mSet, mAsg, mPar2, mPar3, mVar, mC, mOp, mUn, mChain, mT, mAnd, mOr, mNot, mAndV, mOrV, mNotV, mIf, mNil, mCons, mTup, mLst, mLstO, mDct, mCall, mCallF, mPN, mPS, mSl, mFor, iR1, iR2, iZ, iE, iS, mLc, mLcO, mYes, gTg, gUnL, gUn, gSetL, slot, seqD, bindT, bindTs, fIx, fSl, fRev, fAdd, fSub, fMul, fDiv, fMod, fPow, fNeg, fLe, fGt, fGe, fEq, gLen, gInt, gBool, gStr, gList, gTuple, gSum, gSumB, gRepr, List.map_cons, List.map_nil, List.length_cons, List.length_nil, List.cons_append, List.nil_append, List.set_cons_zero, List.set_cons_succ, List.getElem?_cons_zero, List.getElem?_cons_succ, List.replicate, intsV_len, em, e2, e3, e4, e5]
  refine ⟨fun ⟨_, h⟩ => (nomatch h), by omega, ?_⟩
  generalize hb : decide (0 < rests.getD k 0) = b
  cases b with
  | true =>
    simp only [e3, e5, intsV_len, List.map_cons, List.map_nil, List.length_cons, List.length_nil, List.cons_append, List.nil_append, List.set_cons_zero, List.set_cons_succ, List.getElem?_cons_zero, List.getElem?_cons_succ, List.replicate]
    exact ⟨hm, hm, hlog, by
      rw [intsV_set]
      exact done _ _ (List.length_set ..) (Int.emod_nonneg _ (by omega)) (Int.emod_lt_of_pos _ hm)⟩
  | false =>
    simp only [e4, List.map_cons, List.map_nil, List.length_cons, List.length_nil, List.cons_append, List.nil_append, List.set_cons_zero, List.set_cons_succ, List.getElem?_cons_zero, List.getElem?_cons_succ, List.replicate]
    have b1 := Int.emod_nonneg c (show (2147483543 : Int) ≠ 0 by omega)
    have b2 := Int.emod_lt_of_pos c (show (0 : Int) < 2147483543 by omega)
    generalize c % 2147483543 = u at *
    have b3 := Int.emod_nonneg ((u + 75979 * (t : Int) + 4481) ^ (3 : Int).toNat) (show (2147483497 : Int) ≠ 0 by omega)
    have b4 := Int.emod_lt_of_pos ((u + 75979 * (t : Int) + 4481) ^ (3 : Int).toNat) (show (0 : Int) < 2147483497 by omega)
    have p1 : (u + 75979 * (t : Int) + 4481).natAbs < 2 ^ 64 := by omega
    generalize (u + 75979 * (t : Int) + 4481) ^ (3 : Int).toNat % 2147483497 = v at *
    have b5 := Int.emod_nonneg ((v + 7919 * (t : Int) + 13) ^ (3 : Int).toNat) (show (2147483423 : Int) ≠ 0 by omega)
    have b6 := Int.emod_lt_of_pos ((v + 7919 * (t : Int) + 13) ^ (3 : Int).toNat) (show (0 : Int) < 2147483423 by omega)
    have p2 : (v + 7919 * (t : Int) + 13).natAbs < 2 ^ 64 := by omega
    generalize (v + 7919 * (t : Int) + 13) ^ (3 : Int).toNat % 2147483423 = w at *
    exact ⟨by omega, mulOk_s (by omega) (by omega), by omega, by omega, p1, by omega, mulOk_s (by omega) (by omega), by omega, by omega, p2, by omega, mulOk_s (by omega) (by omega), by omega, hm, done _ _ rfl (Int.emod_nonneg _ (by omega)) (Int.emod_lt_of_pos _ hm)⟩
theorem deck_ok {ns : List Int} {Q : MK DV} {E : MX} (hn : ns.length ≤ 63) (q : ∀ S', Dk 0 [] S' → Q (.ref 1) S') : m__law_deck [.frz (intsV ns)] [] Q E := by
  have fin : ∀ (cells : List Int) (Qf : MK (List DV)), cells.length ≤ 64 → (∀ r : List Int, r.length = cells.length → Qf (intsV r) []) → lcGo (.nm 2) mYes (mOp fMul (mVar 2) (mCall gInt (mCons (mOp fGe (mVar 2) (mOp fPow (mC (.int 10)) (mC (.int 18)))) mNil))) [some (.frz (intsV ns)), some (.lst (intsV cells)), none] (intsV cells) [] [] Qf := by
    intro cells Qf h64 hq
    refine lcGo_ind (fun xs acc S => S = [] ∧ ∃ r rs, acc = intsV r ∧ xs = intsV rs ∧ r.length + rs.length = cells.length) ?hn ?hs (intsV cells) [] [] ⟨rfl, [], cells, rfl, rfl, by simp⟩
    case hn =>
      intro acc S ⟨e1, r, rs, e2, e3, e4⟩
      subst e1 e2
      cases rs with
      | nil => exact hq r (by simpa using e4)
      | cons a b => exact nomatch (show ([] : List DV) = .int a :: intsV b from e3)
    case hs =>
      intro x xs acc S ⟨e1, r, rs, e2, e3, e4⟩ ih
      cases rs with
      | nil => exact nomatch (show x :: xs = [] from e3)
      | cons a rs =>
        have e3' : x :: xs = .int a :: intsV rs := e3
        injection e3' with e5 e6
        subst e1 e2 e5 e6
        have hl : (intsV r).length < 16777216 := by rw [intsV_len]; simp at e4; omega
        have app : ∀ z : Int, intsV r ++ [DV.int z] = intsV (r ++ [z]) := fun z => intsV_app r [z]
        simp only [lcGo, mBody, startD, mNext, mSeq, mExpr, mRet, mRetN, mIfS, mBreak, mCont, mSet, mAsg, mPar2, mPar3, mVar, mC, mOp, mUn, mChain, mT, mAnd, mOr, mNot, mAndV, mOrV, mNotV, mIf, mNil, mCons, mTup, mLst, mLstO, mDct, mCall, mCallF, mPN, mPS, mSl, mFor, iR1, iR2, iZ, iE, iS, mLc, mLcO, mYes, gTg, gUnL, gUn, gSetL, slot, seqD, bindT, bindTs, fIx, fSl, fRev, fAdd, fSub, fMul, fDiv, fMod, fPow, fNeg, fLe, fGt, fGe, fEq, gLen, gInt, gBool, gStr, gList, gTuple, gSum, gSumB, gRepr, List.map_cons, List.map_nil, List.length_cons, List.length_nil, List.cons_append, List.nil_append, List.set_cons_zero, List.set_cons_succ, List.getElem?_cons_zero, List.getElem?_cons_succ, List.replicate]
        refine ⟨by omega, by omega, by decide, ?_⟩
        cases decide ((10 : Int) ^ (18 : Int).toNat ≤ a) with
        | true => exact ⟨mulOk_r (by decide) (by decide), hl, ih _ _ ⟨rfl, r ++ [a * 1], rs, app _, rfl, by simp at e4 ⊢; omega⟩⟩
        | false => exact ⟨mulOk_r (by decide) (by decide), hl, ih _ _ ⟨rfl, r ++ [a * 0], rs, app _, rfl, by simp at e4 ⊢; omega⟩⟩
  simp only [app4 m__law_deck_e, app3 b__law_deck_e, app3 r__law_deck_1_e, mBody, startD, mNext, mSeq, mExpr, mRet, mRetN, mIfS, mBreak, mCont, mSet, mAsg, mPar2, mPar3, mVar, mC, mOp, mUn, mChain, mT, mAnd, mOr, mNot, mAndV, mOrV, mNotV, mIf, mNil, mCons, mTup, mLst, mLstO, mDct, mCall, mCallF, mPN, mPS, mSl, mFor, iR1, iR2, iZ, iE, iS, mLc, mLcO, mYes, gTg, gUnL, gUn, gSetL, slot, seqD, bindT, bindTs, fIx, fSl, fRev, fAdd, fSub, fMul, fDiv, fMod, fPow, fNeg, fLe, fGt, fGe, fEq, gLen, gInt, gBool, gStr, gList, gTuple, gSum, gSumB, gRepr, List.map_cons, List.map_nil, List.length_cons, List.length_nil, List.cons_append, List.nil_append, List.set_cons_zero, List.set_cons_succ, List.getElem?_cons_zero, List.getElem?_cons_succ, List.replicate, cut63 ns hn]
  cases ns with
  | nil => exact ⟨by decide, by decide, by decide, by decide, by decide, fin [0] _ (by decide) fun r hr => ⟨by decide, q _ ⟨[0], r, rfl, hr, by decide⟩⟩⟩
  | cons a b =>
    have e0 : decide (((intsV (a :: b)).length : Int) = 0) = false := decide_eq_false (by rw [intsV_len]; simp; omega)
    have e1 : (List.replicate (if (false = true) then (1 : Int) else 0).toNat [DV.int 0]).flatten = [] := rfl
    simp only [e0, e1, List.append_nil]
    exact ⟨by decide, by decide, by decide, by decide, by rw [intsV_len]; simp only [List.length_nil]; omega, fin (a :: b) _ (by omega) fun r hr => ⟨by decide, q _ ⟨a :: b, r, rfl, hr, by simp⟩⟩⟩
theorem one_ok {t : Nat} {R S : Store} {ds : List DV} {Q : MK DV} {E : MX} (D : Dk t R S) (h0 : 0 < ds.length) (h1 : ds.length < 2 ^ 32) (ht : t < 1099511627776) (q : ∀ S' d, Dk (t + 1) R S' → d ∈ ds → Q d S') : m__law_one [.ref 1, .lst ds] S Q E := by
  simp only [app4 m__law_one_e, app3 b__law_one_e, mBody, startD, mNext, mSeq, mExpr, mRet, mRetN, mIfS, mBreak, mCont, mSet, mAsg, mPar2, mPar3, mVar, mC, mOp, mUn, mChain, mT, mAnd, mOr, mNot, mAndV, mOrV, mNotV, mIf, mNil, mCons, mTup, mLst, mLstO, mDct, mCall, mCallF, mPN, mPS, mSl, mFor, iR1, iR2, iZ, iE, iS, mLc, mLcO, mYes, gTg, gUnL, gUn, gSetL, slot, seqD, bindT, bindTs, fIx, fSl, fRev, fAdd, fSub, fMul, fDiv, fMod, fPow, fNeg, fLe, fGt, fGe, fEq, gLen, gInt, gBool, gStr, gList, gTuple, gSum, gSumB, gRepr, List.map_cons, List.map_nil, List.length_cons, List.length_nil, List.cons_append, List.nil_append, List.set_cons_zero, List.set_cons_succ, List.getElem?_cons_zero, List.getElem?_cons_succ, List.replicate]
  refine ⟨trivial, draw_ok D (by omega) (by omega) ht fun S' d D' h1 h2 => ?_⟩
  obtain ⟨k, rfl⟩ := Int.eq_ofNat_of_zero_le h1
  have hk : k < ds.length := by omega
  have e : atI ds (k : Int) = some ds[k] := by rw [DL.atI_at, List.getElem?_eq_getElem hk]
  simp only [e]
  exact q S' _ D' (List.getElem_mem hk)
theorem bag_ok {t : Nat} {R S : Store} {g : Nat} {most : Int} {Q : MK DV} {E : MX} (D : Dk t R S) (hg : g ≤ 1000) (hm : 0 ≤ most) (hm2 : most < 2 ^ 63) (ht : t + g < 1099511627776) (q : ∀ S' (xs : List Int), Dk (t + g) R S' → xs.length = g → (∀ x ∈ xs, 0 ≤ x ∧ x ≤ most) → Q (.tup (intsV xs)) S') : m__law_bag [.ref 1, .int g, .int most] S Q E := by
  simp only [app4 m__law_bag_e, app3 b__law_bag_e, mBody, startD, mNext, mSeq, mExpr, mRet, mRetN, mIfS, mBreak, mCont, mSet, mAsg, mPar2, mPar3, mVar, mC, mOp, mUn, mChain, mT, mAnd, mOr, mNot, mAndV, mOrV, mNotV, mIf, mNil, mCons, mTup, mLst, mLstO, mDct, mCall, mCallF, mPN, mPS, mSl, mFor, iR1, iR2, iZ, iE, iS, mLc, mLcO, mYes, gTg, gUnL, gUn, gSetL, slot, seqD, bindT, bindTs, fIx, fSl, fRev, fAdd, fSub, fMul, fDiv, fMod, fPow, fNeg, fLe, fGt, fGe, fEq, gLen, gInt, gBool, gStr, gList, gTuple, gSum, gSumB, gRepr, List.map_cons, List.map_nil, List.length_cons, List.length_nil, List.cons_append, List.nil_append, List.set_cons_zero, List.set_cons_succ, List.getElem?_cons_zero, List.getElem?_cons_succ, List.replicate, Int.toNat_natCast]
  refine ⟨by omega, by omega, ?_⟩
  refine lcGo_ind (fun xs acc S' => xs.length ≤ g ∧ Dk (t + g - xs.length) R S' ∧ ∃ ys : List Int, acc = intsV ys ∧ ys.length + xs.length = g ∧ ∀ x ∈ ys, 0 ≤ x ∧ x ≤ most) ?hn ?hs _ _ _ ⟨by rw [rngD_len]; omega, by rw [rngD_len]; simpa using D, [], rfl, by rw [rngD_len]; simp, by simp⟩
  case hn =>
    rintro acc S' ⟨_, D', ys, rfl, e, b⟩
    exact q S' ys (by simpa using D') (by simpa using e) b
  case hs =>
    rintro x xs acc S' ⟨hl, D', ys, rfl, e, b⟩ ih
    rw [List.length_cons] at hl e
    rw [List.length_cons] at D'
    simp only [lcGo, wipeD, mBody, startD, mNext, mSeq, mExpr, mRet, mRetN, mIfS, mBreak, mCont, mSet, mAsg, mPar2, mPar3, mVar, mC, mOp, mUn, mChain, mT, mAnd, mOr, mNot, mAndV, mOrV, mNotV, mIf, mNil, mCons, mTup, mLst, mLstO, mDct, mCall, mCallF, mPN, mPS, mSl, mFor, iR1, iR2, iZ, iE, iS, mLc, mLcO, mYes, gTg, gUnL, gUn, gSetL, slot, seqD, bindT, bindTs, fIx, fSl, fRev, fAdd, fSub, fMul, fDiv, fMod, fPow, fNeg, fLe, fGt, fGe, fEq, gLen, gInt, gBool, gStr, gList, gTuple, gSum, gSumB, gRepr, List.map_cons, List.map_nil, List.length_cons, List.length_nil, List.cons_append, List.nil_append, List.set_cons_zero, List.set_cons_succ, List.getElem?_cons_zero, List.getElem?_cons_succ, List.replicate]
    refine ⟨trivial, draw_ok D' (by omega) (by omega) (by omega) fun S2 d D2 h1 h2 => ?_⟩
    refine ⟨by rw [intsV_len]; omega, ih _ _ ⟨by omega, ?_, ys ++ [d], intsV_app ys [d], by simp; omega, ?_⟩⟩
    · have e3 : t + g - (xs.length + 1) + 1 = t + g - xs.length := by omega
      rw [e3] at D2
      exact D2
    · intro z hz
      rcases List.mem_append.mp hz with hz | hz
      · exact b z hz
      · have : z = d := by simpa using hz
        omega
theorem rep_zero (n : Nat) : (List.replicate n [DV.int 0]).flatten = intsV (List.replicate n 0) := by
  induction n with
  | zero => rfl
  | succ n ih =>
    rw [List.replicate_succ, List.flatten_cons, ih, List.replicate_succ]
    rfl
/-- the store has the deck and a list behind all others -/
theorem dk_snoc {t : Nat} {R S : Store} {d : DO} (D : Dk t R S) : Dk t (R ++ [some d]) (S ++ [some d]) := by
  obtain ⟨cells, rests, rfl, h1, h2⟩ := D
  exact ⟨cells, rests, rfl, h1, h2⟩
theorem dk_len {t : Nat} {R S : Store} (D : Dk t R S) : S.length = R.length + 2 := by
  obtain ⟨cells, rests, rfl, h1, h2⟩ := D
  rfl
theorem dk_last {t : Nat} {R S : Store} {d : DO} (D : Dk t (R ++ [some d]) S) : S[R.length + 2]? = some (some d) := by
  obtain ⟨cells, rests, rfl, h1, h2⟩ := D
  simp
theorem dk_set {t : Nat} {R S : Store} {d e : DO} (D : Dk t (R ++ [some d]) S) : Dk t (R ++ [some e]) (S.set (R.length + 2) (some e)) := by
  obtain ⟨cells, rests, rfl, h1, h2⟩ := D
  refine ⟨cells, rests, ?_, h1, h2⟩
  simp [List.set_append]
theorem gSetL_e {a i : ME} {d : DV} {δ : DEnv} {S : Store} {Q : DEnv → Store → Prop} {p : Nat} {j : Int} {ds : List DV} {n : Nat} {S2 : Store} (ha : ∀ Qc : MK DV, Qc (.ref p) S → a δ S Qc noE) (hi : ∀ Qc : MK DV, Qc (.int j) S2 → i δ S Qc noE) (hs : S2[p]? = some (some (.lst ds))) (hn : ixN ds.length j = some n) (q : Q δ (S2.set p (some (.lst (ds.set n d))))) : gSetL a i d δ S Q := by
  refine ha _ (hi _ ?_)
  simp only [hs, hn]
  exact q
def In0 (a : List Int) : Prop := ∀ x ∈ a, 0 ≤ x ∧ x ≤ 3
theorem sum_set : ∀ {a : List Int} {k : Nat} {z : Int}, k < a.length → (a.set k z).sum = a.sum - a.getD k 0 + z
  | [], k, z, h => by simp at h
  | x :: a, 0, z, h => by simp; omega
  | x :: a, k + 1, z, h => by
    have ih := sum_set (a := a) (k := k) (z := z) (by simpa using h)
    simp only [List.set_cons_succ, List.sum_cons, List.getD_cons_succ, ih]
    omega
theorem in0_set {a : List Int} {k : Nat} {z : Int} (h : In0 a) (h0 : 0 ≤ z) (h1 : z ≤ 3) : In0 (a.set k z) := fun x hx => by
  rcases List.mem_or_eq_of_mem_set hx with hx | rfl
  · exact h x hx
  · exact ⟨h0, h1⟩
theorem ref_ix {p : Nat} {i : Int} {S : Store} {Q : MK DV} {ds : List DV} (h : S[p]? = some (some (.lst ds))) : fIx (.ref p) (.int i) S Q = onSome (atI ds i) S Q := by
  show (match (match S[p]? with
    | some (some (DO.lst ds)) => some ds
    | _ => none) with
    | some ds => (match atI ds i with
      | some e => Q e S
      | none => False)
    | none => False) = _
  rw [h]
  rfl
theorem ref_tuple {p : Nat} {S : Store} {Q : MK DV} {ds : List DV} (h : S[p]? = some (some (.lst ds))) : gTuple [.ref p] S Q = Q (.tup ds) S := by
  show (match (match S[p]? with
    | some (some (DO.lst ds)) => some ds
    | _ => none) with
    | some ds => Q (.tup ds) S
    | none => False) = _
  rw [h]
theorem side_ok {t g : Nat} {R S : Store} {most : Int} {Q : MK DV} {E : MX} (D : Dk t R S) (hg0 : 0 < g) (hg : g ≤ 100) (hm : 0 ≤ most) (hm2 : most ≤ 100) (ht : t ≤ 100000000)
    (q : ∀ S' (xs : List Int) R' t', Dk t' R' S' → R <+: R' → t' ≤ t + 200 → xs.length = g → In0 xs → xs.sum ≤ most → Q (.tup (intsV xs)) S') : m__law_side [.ref 1, .int g, .int most] S Q E := by
  simp only [app4 m__law_side_e, app3 b__law_side_e, mBody_e, startD_e, mNext_e, mSeq_e, mExpr_e, mRet_e, mRetN_e, mIfS_e, mBreak_e, mCont_e, mSet_e, mAsg_e, mPar2_e, mPar3_e, mVar_e, slot_0, slot_s, mC_e, mOp_e, mUn_e, mT_e, mAnd_e, mOr_e, mNot_e, mAndV_e, mOrV_e, mNotV_e, mIf_e, mTup_0, mTup_1, mTup_2, mTup_3, mLst_0, mLst_1, mLst_2, mLst_3, mLst_4, mCall_1, mCall_2, mCallF_1, mCallF_2, mCallF_3, mCallF_4, mFor_e, iR1_e, iZ_e, iE_e, iS_e, mLc_e, mLcO_e, mYes_e, gTg_e, bindT_nm, bindT_1, bindT_2, bindT_3, onEnv_s, onInt_i, onBl_b, onSeq_t, onSeq_l, onSeq_f, onZip_t, onZip_l, onEnum_t, onEnum_l, onT_t, onT_f, onSome_s, fAdd_ii, fAdd_tt, fAdd_ll, fAdd_ss, fSub_ii, fMul_ii, fMul_li, fDiv_ii, fMod_ii, fPow_ii, fNeg_i, fLe_ii, fGt_ii, fGe_ii, fLt_ii, fEq_ii, fEq_ss, fEq_bb, gLen_t, gLen_l, gLen_f, gInt_i, gInt_b, gBool_b, gList_t, gList_l, gList_f, gTuple_t, gTuple_l, gSum_t, gSum_l, fIx_t, fIx_l, fIx_f, fSl_t, fSl_l, fSl_f, fRev_t, fRev_l, wipeD_n, wipeD_c, mPN_e, mPS_e, mSl_e, mDct_e, mChain_e, gMax2_ii, fMulO_li, fMulT_e, iR2_e, fEqN_l, mLst_7, mLst_8, mLst_9, mLst_10, mLst_11, mLst_12, mLst_13, mLst_14, mLst_15, mLst_16, mLst_17, mLst_18, mLst_19, mLst_20, mDcx_e, mMeth_e, mMeth0_e, tyM_str, true_and, mLstO_0, mLstO_1, mLstO_2, mLstO_3, mLstO_4, mTup_4, mLstO_5, mLst_5, mTup_5, mLstO_6, mLst_6, mTup_6, gIsi_non_int, gIsi_non_bool, gIsi_non_tuple, gIsi_non_str, gIsi_non_list, fIs_non, gIsi_bl_int, gIsi_bl_bool, gIsi_bl_tuple, gIsi_bl_str, gIsi_bl_list, fIs_bl, gIsi_int_int, gIsi_int_bool, gIsi_int_tuple, gIsi_int_str, gIsi_int_list, fIs_int, gIsi_str_int, gIsi_str_bool, gIsi_str_tuple, gIsi_str_str, gIsi_str_list, fIs_str, gIsi_tup_int, gIsi_tup_bool, gIsi_tup_tuple, gIsi_tup_str, gIsi_tup_list, fIs_tup, gIsi_lst_int, gIsi_lst_bool, gIsi_lst_tuple, gIsi_lst_str, gIsi_lst_list, fIs_lst, gIsi_frz_int, gIsi_frz_bool, gIsi_frz_tuple, gIsi_frz_str, gIsi_frz_list, fIs_frz, gIsi_dct_int, gIsi_dct_bool, gIsi_dct_tuple, gIsi_dct_str, gIsi_dct_list, fIs_dct, List.map_cons, List.map_nil, List.length_cons, List.length_nil, List.cons_append, List.nil_append, List.set_cons_zero, List.set_cons_succ, List.replicate_zero, List.replicate_succ, fMulO_li, Int.toNat_natCast, rep_zero]
  refine ⟨by omega, by omega, by omega, ?_⟩
  have D1 : Dk t (R ++ [some (.lst (intsV (List.replicate g 0)))]) (S ++ [some (.lst (intsV (List.replicate g 0)))]) := dk_snoc D
  have el : S.length = R.length + 2 := dk_len D
  rw [el]
  simp only [app3 r__law_side_3_e, mBody_e, startD_e, mNext_e, mSeq_e, mExpr_e, mRet_e, mRetN_e, mIfS_e, mBreak_e, mCont_e, mSet_e, mAsg_e, mPar2_e, mPar3_e, mVar_e, slot_0, slot_s, mC_e, mOp_e, mUn_e, mT_e, mAnd_e, mOr_e, mNot_e, mAndV_e, mOrV_e, mNotV_e, mIf_e, mTup_0, mTup_1, mTup_2, mTup_3, mLst_0, mLst_1, mLst_2, mLst_3, mLst_4, mCall_1, mCall_2, mCallF_1, mCallF_2, mCallF_3, mCallF_4, mFor_e, iR1_e, iZ_e, iE_e, iS_e, mLc_e, mLcO_e, mYes_e, gTg_e, bindT_nm, bindT_1, bindT_2, bindT_3, onEnv_s, onInt_i, onBl_b, onSeq_t, onSeq_l, onSeq_f, onZip_t, onZip_l, onEnum_t, onEnum_l, onT_t, onT_f, onSome_s, fAdd_ii, fAdd_tt, fAdd_ll, fAdd_ss, fSub_ii, fMul_ii, fMul_li, fDiv_ii, fMod_ii, fPow_ii, fNeg_i, fLe_ii, fGt_ii, fGe_ii, fLt_ii, fEq_ii, fEq_ss, fEq_bb, gLen_t, gLen_l, gLen_f, gInt_i, gInt_b, gBool_b, gList_t, gList_l, gList_f, gTuple_t, gTuple_l, gSum_t, gSum_l, fIx_t, fIx_l, fIx_f, fSl_t, fSl_l, fSl_f, fRev_t, fRev_l, wipeD_n, wipeD_c, mPN_e, mPS_e, mSl_e, mDct_e, mChain_e, gMax2_ii, fMulO_li, fMulT_e, iR2_e, fEqN_l, mLst_7, mLst_8, mLst_9, mLst_10, mLst_11, mLst_12, mLst_13, mLst_14, mLst_15, mLst_16, mLst_17, mLst_18, mLst_19, mLst_20, mDcx_e, mMeth_e, mMeth0_e, tyM_str, true_and, mLstO_0, mLstO_1, mLstO_2, mLstO_3, mLstO_4, mTup_4, mLstO_5, mLst_5, mTup_5, mLstO_6, mLst_6, mTup_6, gIsi_non_int, gIsi_non_bool, gIsi_non_tuple, gIsi_non_str, gIsi_non_list, fIs_non, gIsi_bl_int, gIsi_bl_bool, gIsi_bl_tuple, gIsi_bl_str, gIsi_bl_list, fIs_bl, gIsi_int_int, gIsi_int_bool, gIsi_int_tuple, gIsi_int_str, gIsi_int_list, fIs_int, gIsi_str_int, gIsi_str_bool, gIsi_str_tuple, gIsi_str_str, gIsi_str_list, fIs_str, gIsi_tup_int, gIsi_tup_bool, gIsi_tup_tuple, gIsi_tup_str, gIsi_tup_list, fIs_tup, gIsi_lst_int, gIsi_lst_bool, gIsi_lst_tuple, gIsi_lst_str, gIsi_lst_list, fIs_lst, gIsi_frz_int, gIsi_frz_bool, gIsi_frz_tuple, gIsi_frz_str, gIsi_frz_list, fIs_frz, gIsi_dct_int, gIsi_dct_bool, gIsi_dct_tuple, gIsi_dct_str, gIsi_dct_list, fIs_dct, List.map_cons, List.map_nil, List.length_cons, List.length_nil, List.cons_append, List.nil_append, List.set_cons_zero, List.set_cons_succ, List.replicate_zero, List.replicate_succ]
  refine draw_ok D1 (by omega) (by omega) (by omega) fun S2 n D2 hn0 hn1 => ?_
  obtain ⟨n, rfl⟩ := Int.eq_ofNat_of_zero_le hn0
  simp only [mBody_e, startD_e, mNext_e, mSeq_e, mExpr_e, mRet_e, mRetN_e, mIfS_e, mBreak_e, mCont_e, mSet_e, mAsg_e, mPar2_e, mPar3_e, mVar_e, slot_0, slot_s, mC_e, mOp_e, mUn_e, mT_e, mAnd_e, mOr_e, mNot_e, mAndV_e, mOrV_e, mNotV_e, mIf_e, mTup_0, mTup_1, mTup_2, mTup_3, mLst_0, mLst_1, mLst_2, mLst_3, mLst_4, mCall_1, mCall_2, mCallF_1, mCallF_2, mCallF_3, mCallF_4, mFor_e, iR1_e, iZ_e, iE_e, iS_e, mLc_e, mLcO_e, mYes_e, gTg_e, bindT_nm, bindT_1, bindT_2, bindT_3, onEnv_s, onInt_i, onBl_b, onSeq_t, onSeq_l, onSeq_f, onZip_t, onZip_l, onEnum_t, onEnum_l, onT_t, onT_f, onSome_s, fAdd_ii, fAdd_tt, fAdd_ll, fAdd_ss, fSub_ii, fMul_ii, fMul_li, fDiv_ii, fMod_ii, fPow_ii, fNeg_i, fLe_ii, fGt_ii, fGe_ii, fLt_ii, fEq_ii, fEq_ss, fEq_bb, gLen_t, gLen_l, gLen_f, gInt_i, gInt_b, gBool_b, gList_t, gList_l, gList_f, gTuple_t, gTuple_l, gSum_t, gSum_l, fIx_t, fIx_l, fIx_f, fSl_t, fSl_l, fSl_f, fRev_t, fRev_l, wipeD_n, wipeD_c, mPN_e, mPS_e, mSl_e, mDct_e, mChain_e, gMax2_ii, fMulO_li, fMulT_e, iR2_e, fEqN_l, mLst_7, mLst_8, mLst_9, mLst_10, mLst_11, mLst_12, mLst_13, mLst_14, mLst_15, mLst_16, mLst_17, mLst_18, mLst_19, mLst_20, mDcx_e, mMeth_e, mMeth0_e, tyM_str, true_and, mLstO_0, mLstO_1, mLstO_2, mLstO_3, mLstO_4, mTup_4, mLstO_5, mLst_5, mTup_5, mLstO_6, mLst_6, mTup_6, gIsi_non_int, gIsi_non_bool, gIsi_non_tuple, gIsi_non_str, gIsi_non_list, fIs_non, gIsi_bl_int, gIsi_bl_bool, gIsi_bl_tuple, gIsi_bl_str, gIsi_bl_list, fIs_bl, gIsi_int_int, gIsi_int_bool, gIsi_int_tuple, gIsi_int_str, gIsi_int_list, fIs_int, gIsi_str_int, gIsi_str_bool, gIsi_str_tuple, gIsi_str_str, gIsi_str_list, fIs_str, gIsi_tup_int, gIsi_tup_bool, gIsi_tup_tuple, gIsi_tup_str, gIsi_tup_list, fIs_tup, gIsi_lst_int, gIsi_lst_bool, gIsi_lst_tuple, gIsi_lst_str, gIsi_lst_list, fIs_lst, gIsi_frz_int, gIsi_frz_bool, gIsi_frz_tuple, gIsi_frz_str, gIsi_frz_list, fIs_frz, gIsi_dct_int, gIsi_dct_bool, gIsi_dct_tuple, gIsi_dct_str, gIsi_dct_list, fIs_dct, List.map_cons, List.map_nil, List.length_cons, List.length_nil, List.cons_append, List.nil_append, List.set_cons_zero, List.set_cons_succ, List.replicate_zero, List.replicate_succ, Int.toNat_natCast]
  refine ⟨by omega, by omega, ?_⟩
  refine forGo_ind (fun xs δ S' => ∃ (t' : Nat) (row : List Int) (d4 d5 : Option DV), δ = [some (.ref 1), some (.int g), some (.int most), some (.ref (R.length + 2)), d4, d5] ∧ Dk t' (R ++ [some (.lst (intsV row))]) S' ∧ t' + xs.length ≤ t + 1 + n ∧ row.length = g ∧ In0 row ∧ row.sum + xs.length ≤ n) ?hn ?hs _ _ _ ⟨t + 1, List.replicate g 0, _, _, rfl, D2, by rw [rngD_len]; omega, List.length_replicate .., (fun x hx => by have := List.eq_of_mem_replicate hx; omega), ?hsum⟩
  case hsum =>
    rw [rngD_len]
    have : (List.replicate g (0 : Int)).sum = 0 := by simp
    omega
  case hn =>
    rintro δ S' ⟨t', row, d4, d5, rfl, D', h1, h2, h3, h4⟩
    have hs := dk_last D'
    simp only [app3 r__law_side_2_e, mBody_e, startD_e, mNext_e, mSeq_e, mExpr_e, mRet_e, mRetN_e, mIfS_e, mBreak_e, mCont_e, mSet_e, mAsg_e, mPar2_e, mPar3_e, mVar_e, slot_0, slot_s, mC_e, mOp_e, mUn_e, mT_e, mAnd_e, mOr_e, mNot_e, mAndV_e, mOrV_e, mNotV_e, mIf_e, mTup_0, mTup_1, mTup_2, mTup_3, mLst_0, mLst_1, mLst_2, mLst_3, mLst_4, mCall_1, mCall_2, mCallF_1, mCallF_2, mCallF_3, mCallF_4, mFor_e, iR1_e, iZ_e, iE_e, iS_e, mLc_e, mLcO_e, mYes_e, gTg_e, bindT_nm, bindT_1, bindT_2, bindT_3, onEnv_s, onInt_i, onBl_b, onSeq_t, onSeq_l, onSeq_f, onZip_t, onZip_l, onEnum_t, onEnum_l, onT_t, onT_f, onSome_s, fAdd_ii, fAdd_tt, fAdd_ll, fAdd_ss, fSub_ii, fMul_ii, fMul_li, fDiv_ii, fMod_ii, fPow_ii, fNeg_i, fLe_ii, fGt_ii, fGe_ii, fLt_ii, fEq_ii, fEq_ss, fEq_bb, gLen_t, gLen_l, gLen_f, gInt_i, gInt_b, gBool_b, gList_t, gList_l, gList_f, gTuple_t, gTuple_l, gSum_t, gSum_l, fIx_t, fIx_l, fIx_f, fSl_t, fSl_l, fSl_f, fRev_t, fRev_l, wipeD_n, wipeD_c, mPN_e, mPS_e, mSl_e, mDct_e, mChain_e, gMax2_ii, fMulO_li, fMulT_e, iR2_e, fEqN_l, mLst_7, mLst_8, mLst_9, mLst_10, mLst_11, mLst_12, mLst_13, mLst_14, mLst_15, mLst_16, mLst_17, mLst_18, mLst_19, mLst_20, mDcx_e, mMeth_e, mMeth0_e, tyM_str, true_and, mLstO_0, mLstO_1, mLstO_2, mLstO_3, mLstO_4, mTup_4, mLstO_5, mLst_5, mTup_5, mLstO_6, mLst_6, mTup_6, gIsi_non_int, gIsi_non_bool, gIsi_non_tuple, gIsi_non_str, gIsi_non_list, fIs_non, gIsi_bl_int, gIsi_bl_bool, gIsi_bl_tuple, gIsi_bl_str, gIsi_bl_list, fIs_bl, gIsi_int_int, gIsi_int_bool, gIsi_int_tuple, gIsi_int_str, gIsi_int_list, fIs_int, gIsi_str_int, gIsi_str_bool, gIsi_str_tuple, gIsi_str_str, gIsi_str_list, fIs_str, gIsi_tup_int, gIsi_tup_bool, gIsi_tup_tuple, gIsi_tup_str, gIsi_tup_list, fIs_tup, gIsi_lst_int, gIsi_lst_bool, gIsi_lst_tuple, gIsi_lst_str, gIsi_lst_list, fIs_lst, gIsi_frz_int, gIsi_frz_bool, gIsi_frz_tuple, gIsi_frz_str, gIsi_frz_list, fIs_frz, gIsi_dct_int, gIsi_dct_bool, gIsi_dct_tuple, gIsi_dct_str, gIsi_dct_list, fIs_dct, List.map_cons, List.map_nil, List.length_cons, List.length_nil, List.cons_append, List.nil_append, List.set_cons_zero, List.set_cons_succ, List.replicate_zero, List.replicate_succ, ref_tuple hs]
    refine q S' row _ t' D' (List.prefix_append _ _) ?_ h2 h3 ?_
    · have : t' + 0 ≤ t + 1 + n := h1
      omega
    · have : row.sum + ((0 : Nat) : Int) ≤ n := h4
      omega
  case hs =>
    rintro x xs δ S' ⟨t', row, d4, d5, rfl, D', h1, h2, h3, h4⟩ ih
    rw [List.length_cons] at h1 h4
    simp only [forGo_c, app3 f__law_side_1_e, mBody_e, startD_e, mNext_e, mSeq_e, mExpr_e, mRet_e, mRetN_e, mIfS_e, mBreak_e, mCont_e, mSet_e, mAsg_e, mPar2_e, mPar3_e, mVar_e, slot_0, slot_s, mC_e, mOp_e, mUn_e, mT_e, mAnd_e, mOr_e, mNot_e, mAndV_e, mOrV_e, mNotV_e, mIf_e, mTup_0, mTup_1, mTup_2, mTup_3, mLst_0, mLst_1, mLst_2, mLst_3, mLst_4, mCall_1, mCall_2, mCallF_1, mCallF_2, mCallF_3, mCallF_4, mFor_e, iR1_e, iZ_e, iE_e, iS_e, mLc_e, mLcO_e, mYes_e, gTg_e, bindT_nm, bindT_1, bindT_2, bindT_3, onEnv_s, onInt_i, onBl_b, onSeq_t, onSeq_l, onSeq_f, onZip_t, onZip_l, onEnum_t, onEnum_l, onT_t, onT_f, onSome_s, fAdd_ii, fAdd_tt, fAdd_ll, fAdd_ss, fSub_ii, fMul_ii, fMul_li, fDiv_ii, fMod_ii, fPow_ii, fNeg_i, fLe_ii, fGt_ii, fGe_ii, fLt_ii, fEq_ii, fEq_ss, fEq_bb, gLen_t, gLen_l, gLen_f, gInt_i, gInt_b, gBool_b, gList_t, gList_l, gList_f, gTuple_t, gTuple_l, gSum_t, gSum_l, fIx_t, fIx_l, fIx_f, fSl_t, fSl_l, fSl_f, fRev_t, fRev_l, wipeD_n, wipeD_c, mPN_e, mPS_e, mSl_e, mDct_e, mChain_e, gMax2_ii, fMulO_li, fMulT_e, iR2_e, fEqN_l, mLst_7, mLst_8, mLst_9, mLst_10, mLst_11, mLst_12, mLst_13, mLst_14, mLst_15, mLst_16, mLst_17, mLst_18, mLst_19, mLst_20, mDcx_e, mMeth_e, mMeth0_e, tyM_str, true_and, mLstO_0, mLstO_1, mLstO_2, mLstO_3, mLstO_4, mTup_4, mLstO_5, mLst_5, mTup_5, mLstO_6, mLst_6, mTup_6, gIsi_non_int, gIsi_non_bool, gIsi_non_tuple, gIsi_non_str, gIsi_non_list, fIs_non, gIsi_bl_int, gIsi_bl_bool, gIsi_bl_tuple, gIsi_bl_str, gIsi_bl_list, fIs_bl, gIsi_int_int, gIsi_int_bool, gIsi_int_tuple, gIsi_int_str, gIsi_int_list, fIs_int, gIsi_str_int, gIsi_str_bool, gIsi_str_tuple, gIsi_str_str, gIsi_str_list, fIs_str, gIsi_tup_int, gIsi_tup_bool, gIsi_tup_tuple, gIsi_tup_str, gIsi_tup_list, fIs_tup, gIsi_lst_int, gIsi_lst_bool, gIsi_lst_tuple, gIsi_lst_str, gIsi_lst_list, fIs_lst, gIsi_frz_int, gIsi_frz_bool, gIsi_frz_tuple, gIsi_frz_str, gIsi_frz_list, fIs_frz, gIsi_dct_int, gIsi_dct_bool, gIsi_dct_tuple, gIsi_dct_str, gIsi_dct_list, fIs_dct, List.map_cons, List.map_nil, List.length_cons, List.length_nil, List.cons_append, List.nil_append, List.set_cons_zero, List.set_cons_succ, List.replicate_zero, List.replicate_succ]
    refine draw_ok D' (by omega) (by omega) (by omega) fun S3 at_ D3 ha0 ha1 => ?_
    obtain ⟨k, rfl⟩ := Int.eq_ofNat_of_zero_le ha0
    have hk : k < row.length := by omega
    have hs := dk_last D3
    have ea : atI (intsV row) (k : Int) = some (.int (row.getD k 0)) := atI_ints hk
    simp only [app3 r__law_side_1_e, mBody_e, startD_e, mNext_e, mSeq_e, mExpr_e, mRet_e, mRetN_e, mIfS_e, mBreak_e, mCont_e, mSet_e, mAsg_e, mPar2_e, mPar3_e, mVar_e, slot_0, slot_s, mC_e, mOp_e, mUn_e, mT_e, mAnd_e, mOr_e, mNot_e, mAndV_e, mOrV_e, mNotV_e, mIf_e, mTup_0, mTup_1, mTup_2, mTup_3, mLst_0, mLst_1, mLst_2, mLst_3, mLst_4, mCall_1, mCall_2, mCallF_1, mCallF_2, mCallF_3, mCallF_4, mFor_e, iR1_e, iZ_e, iE_e, iS_e, mLc_e, mLcO_e, mYes_e, gTg_e, bindT_nm, bindT_1, bindT_2, bindT_3, onEnv_s, onInt_i, onBl_b, onSeq_t, onSeq_l, onSeq_f, onZip_t, onZip_l, onEnum_t, onEnum_l, onT_t, onT_f, onSome_s, fAdd_ii, fAdd_tt, fAdd_ll, fAdd_ss, fSub_ii, fMul_ii, fMul_li, fDiv_ii, fMod_ii, fPow_ii, fNeg_i, fLe_ii, fGt_ii, fGe_ii, fLt_ii, fEq_ii, fEq_ss, fEq_bb, gLen_t, gLen_l, gLen_f, gInt_i, gInt_b, gBool_b, gList_t, gList_l, gList_f, gTuple_t, gTuple_l, gSum_t, gSum_l, fIx_t, fIx_l, fIx_f, fSl_t, fSl_l, fSl_f, fRev_t, fRev_l, wipeD_n, wipeD_c, mPN_e, mPS_e, mSl_e, mDct_e, mChain_e, gMax2_ii, fMulO_li, fMulT_e, iR2_e, fEqN_l, mLst_7, mLst_8, mLst_9, mLst_10, mLst_11, mLst_12, mLst_13, mLst_14, mLst_15, mLst_16, mLst_17, mLst_18, mLst_19, mLst_20, mDcx_e, mMeth_e, mMeth0_e, tyM_str, true_and, mLstO_0, mLstO_1, mLstO_2, mLstO_3, mLstO_4, mTup_4, mLstO_5, mLst_5, mTup_5, mLstO_6, mLst_6, mTup_6, gIsi_non_int, gIsi_non_bool, gIsi_non_tuple, gIsi_non_str, gIsi_non_list, fIs_non, gIsi_bl_int, gIsi_bl_bool, gIsi_bl_tuple, gIsi_bl_str, gIsi_bl_list, fIs_bl, gIsi_int_int, gIsi_int_bool, gIsi_int_tuple, gIsi_int_str, gIsi_int_list, fIs_int, gIsi_str_int, gIsi_str_bool, gIsi_str_tuple, gIsi_str_str, gIsi_str_list, fIs_str, gIsi_tup_int, gIsi_tup_bool, gIsi_tup_tuple, gIsi_tup_str, gIsi_tup_list, fIs_tup, gIsi_lst_int, gIsi_lst_bool, gIsi_lst_tuple, gIsi_lst_str, gIsi_lst_list, fIs_lst, gIsi_frz_int, gIsi_frz_bool, gIsi_frz_tuple, gIsi_frz_str, gIsi_frz_list, fIs_frz, gIsi_dct_int, gIsi_dct_bool, gIsi_dct_tuple, gIsi_dct_str, gIsi_dct_list, fIs_dct, List.map_cons, List.map_nil, List.length_cons, List.length_nil, List.cons_append, List.nil_append, List.set_cons_zero, List.set_cons_succ, List.replicate_zero, List.replicate_succ, ref_ix hs, ea]
    refine gSetL_e (p := R.length + 2) (j := (k : Int)) (S2 := S3) (n := k) (fun Qc h => ?_) (fun Qc h => ?_) hs (by rw [intsV_len]; exact ixN_of hk) ?_
    · simp only [mBody_e, startD_e, mNext_e, mSeq_e, mExpr_e, mRet_e, mRetN_e, mIfS_e, mBreak_e, mCont_e, mSet_e, mAsg_e, mPar2_e, mPar3_e, mVar_e, slot_0, slot_s, mC_e, mOp_e, mUn_e, mT_e, mAnd_e, mOr_e, mNot_e, mAndV_e, mOrV_e, mNotV_e, mIf_e, mTup_0, mTup_1, mTup_2, mTup_3, mLst_0, mLst_1, mLst_2, mLst_3, mLst_4, mCall_1, mCall_2, mCallF_1, mCallF_2, mCallF_3, mCallF_4, mFor_e, iR1_e, iZ_e, iE_e, iS_e, mLc_e, mLcO_e, mYes_e, gTg_e, bindT_nm, bindT_1, bindT_2, bindT_3, onEnv_s, onInt_i, onBl_b, onSeq_t, onSeq_l, onSeq_f, onZip_t, onZip_l, onEnum_t, onEnum_l, onT_t, onT_f, onSome_s, fAdd_ii, fAdd_tt, fAdd_ll, fAdd_ss, fSub_ii, fMul_ii, fMul_li, fDiv_ii, fMod_ii, fPow_ii, fNeg_i, fLe_ii, fGt_ii, fGe_ii, fLt_ii, fEq_ii, fEq_ss, fEq_bb, gLen_t, gLen_l, gLen_f, gInt_i, gInt_b, gBool_b, gList_t, gList_l, gList_f, gTuple_t, gTuple_l, gSum_t, gSum_l, fIx_t, fIx_l, fIx_f, fSl_t, fSl_l, fSl_f, fRev_t, fRev_l, wipeD_n, wipeD_c, mPN_e, mPS_e, mSl_e, mDct_e, mChain_e, gMax2_ii, fMulO_li, fMulT_e, iR2_e, fEqN_l, mLst_7, mLst_8, mLst_9, mLst_10, mLst_11, mLst_12, mLst_13, mLst_14, mLst_15, mLst_16, mLst_17, mLst_18, mLst_19, mLst_20, mDcx_e, mMeth_e, mMeth0_e, tyM_str, true_and, mLstO_0, mLstO_1, mLstO_2, mLstO_3, mLstO_4, mTup_4, mLstO_5, mLst_5, mTup_5, mLstO_6, mLst_6, mTup_6, gIsi_non_int, gIsi_non_bool, gIsi_non_tuple, gIsi_non_str, gIsi_non_list, fIs_non, gIsi_bl_int, gIsi_bl_bool, gIsi_bl_tuple, gIsi_bl_str, gIsi_bl_list, fIs_bl, gIsi_int_int, gIsi_int_bool, gIsi_int_tuple, gIsi_int_str, gIsi_int_list, fIs_int, gIsi_str_int, gIsi_str_bool, gIsi_str_tuple, gIsi_str_str, gIsi_str_list, fIs_str, gIsi_tup_int, gIsi_tup_bool, gIsi_tup_tuple, gIsi_tup_str, gIsi_tup_list, fIs_tup, gIsi_lst_int, gIsi_lst_bool, gIsi_lst_tuple, gIsi_lst_str, gIsi_lst_list, fIs_lst, gIsi_frz_int, gIsi_frz_bool, gIsi_frz_tuple, gIsi_frz_str, gIsi_frz_list, fIs_frz, gIsi_dct_int, gIsi_dct_bool, gIsi_dct_tuple, gIsi_dct_str, gIsi_dct_list, fIs_dct, List.map_cons, List.map_nil, List.length_cons, List.length_nil, List.cons_append, List.nil_append, List.set_cons_zero, List.set_cons_succ, List.replicate_zero, List.replicate_succ]
      exact h
    · simp only [mBody_e, startD_e, mNext_e, mSeq_e, mExpr_e, mRet_e, mRetN_e, mIfS_e, mBreak_e, mCont_e, mSet_e, mAsg_e, mPar2_e, mPar3_e, mVar_e, slot_0, slot_s, mC_e, mOp_e, mUn_e, mT_e, mAnd_e, mOr_e, mNot_e, mAndV_e, mOrV_e, mNotV_e, mIf_e, mTup_0, mTup_1, mTup_2, mTup_3, mLst_0, mLst_1, mLst_2, mLst_3, mLst_4, mCall_1, mCall_2, mCallF_1, mCallF_2, mCallF_3, mCallF_4, mFor_e, iR1_e, iZ_e, iE_e, iS_e, mLc_e, mLcO_e, mYes_e, gTg_e, bindT_nm, bindT_1, bindT_2, bindT_3, onEnv_s, onInt_i, onBl_b, onSeq_t, onSeq_l, onSeq_f, onZip_t, onZip_l, onEnum_t, onEnum_l, onT_t, onT_f, onSome_s, fAdd_ii, fAdd_tt, fAdd_ll, fAdd_ss, fSub_ii, fMul_ii, fMul_li, fDiv_ii, fMod_ii, fPow_ii, fNeg_i, fLe_ii, fGt_ii, fGe_ii, fLt_ii, fEq_ii, fEq_ss, fEq_bb, gLen_t, gLen_l, gLen_f, gInt_i, gInt_b, gBool_b, gList_t, gList_l, gList_f, gTuple_t, gTuple_l, gSum_t, gSum_l, fIx_t, fIx_l, fIx_f, fSl_t, fSl_l, fSl_f, fRev_t, fRev_l, wipeD_n, wipeD_c, mPN_e, mPS_e, mSl_e, mDct_e, mChain_e, gMax2_ii, fMulO_li, fMulT_e, iR2_e, fEqN_l, mLst_7, mLst_8, mLst_9, mLst_10, mLst_11, mLst_12, mLst_13, mLst_14, mLst_15, mLst_16, mLst_17, mLst_18, mLst_19, mLst_20, mDcx_e, mMeth_e, mMeth0_e, tyM_str, true_and, mLstO_0, mLstO_1, mLstO_2, mLstO_3, mLstO_4, mTup_4, mLstO_5, mLst_5, mTup_5, mLstO_6, mLst_6, mTup_6, gIsi_non_int, gIsi_non_bool, gIsi_non_tuple, gIsi_non_str, gIsi_non_list, fIs_non, gIsi_bl_int, gIsi_bl_bool, gIsi_bl_tuple, gIsi_bl_str, gIsi_bl_list, fIs_bl, gIsi_int_int, gIsi_int_bool, gIsi_int_tuple, gIsi_int_str, gIsi_int_list, fIs_int, gIsi_str_int, gIsi_str_bool, gIsi_str_tuple, gIsi_str_str, gIsi_str_list, fIs_str, gIsi_tup_int, gIsi_tup_bool, gIsi_tup_tuple, gIsi_tup_str, gIsi_tup_list, fIs_tup, gIsi_lst_int, gIsi_lst_bool, gIsi_lst_tuple, gIsi_lst_str, gIsi_lst_list, fIs_lst, gIsi_frz_int, gIsi_frz_bool, gIsi_frz_tuple, gIsi_frz_str, gIsi_frz_list, fIs_frz, gIsi_dct_int, gIsi_dct_bool, gIsi_dct_tuple, gIsi_dct_str, gIsi_dct_list, fIs_dct, List.map_cons, List.map_nil, List.length_cons, List.length_nil, List.cons_append, List.nil_append, List.set_cons_zero, List.set_cons_succ, List.replicate_zero, List.replicate_succ]
      exact h
    · rw [intsV_set]
      have hv := h3 (row.getD k 0) (by rw [List.getD_eq_getElem?_getD, List.getElem?_eq_getElem hk]; exact List.getElem_mem hk)
      refine ih _ _ ⟨t' + 1, row.set k (row.getD k 0 + if decide (row.getD k 0 < 3) = true then 1 else 0), _, _, rfl, dk_set D3, by omega, by rw [List.length_set]; exact h2, in0_set h3 ?_ ?_, ?_⟩
      · split <;> omega
      · split
        · rename_i h
          have := of_decide_eq_true h
          omega
        · omega
      · rw [sum_set hk]
        split <;> omega
abbrev Rl := List Int × List Int
def rV (r : Rl) : DV := .tup [.tup (intsV r.1), .tup (intsV r.2)]
def rsV (rs : List Rl) : List DV := rs.map rV
def mV (g : Nat) (ts : List Rl) : DV := .tup [.int g, .tup (rsV ts)]
structure GoodT (g : Nat) (most : Int) (r : Rl) : Prop where
  l1 : r.1.length = g
  l2 : r.2.length = g
  a1 : In0 r.1
  a2 : In0 r.2
  s1 : r.1.sum ≤ most
  s2 : r.2.sum ≤ most
theorem zip_ok {S : Store} {te : ME} {δ : DEnv} {i j : Nat} {f : Int → Int → Int} (hte : ∀ (x y : Int) (Q : MK DV), Q (.int (f x y)) S → te ((δ.set i (some (.int x))).set j (some (.int y))) S Q noE) (op : List Int → List Int → List Int)
    (h0 : ∀ b, op [] b = []) (h0' : ∀ a, op a [] = []) (h1 : ∀ x y a b, op (x :: a) (y :: b) = f x y :: op a b) {a b : List Int} (hl : a.length ≤ 1000) {Q : MK (List DV)} (q : Q (intsV (op a b)) S) : lcGo (.tp [.nm i, .nm j]) mYes te δ (pairs (intsV a) (intsV b)) [] S Q := by
  rw [pairs_ints]
  refine lc_m (fun p : Int × Int => DV.tup [.int p.1, .int p.2]) (fun p => DV.int (f p.1 p.2)) _ (by rw [List.length_zip]; omega) (fun p _ => ⟨(δ.set i (some (.int p.1))).set j (some (.int p.2)), rfl, fun Qc h => hte p.1 p.2 Qc h⟩) ?_
  have e : ∀ a b : List Int, intsV (op a b) = (a.zip b).map fun p => DV.int (f p.1 p.2) := by
    intro a
    induction a with
    | nil =>
      intro b
      rw [h0]
      rfl
    | cons x a ih =>
      intro b
      cases b with
      | nil =>
        rw [h0']
        rfl
      | cons y b =>
        rw [h1, List.zip_cons_cons, List.map_cons, ← ih b]
        rfl
  rw [← e]
  exact q
def subI : List Int → List Int → List Int
  | x :: a, y :: b => (x - y) :: subI a b
  | _, _ => []
theorem subI_len : ∀ {a b : List Int}, a.length = b.length → (subI a b).length = a.length
  | [], [], _ => rfl
  | [], _ :: _, e => by simp at e
  | _ :: _, [], e => by simp at e
  | x :: a, y :: b, e => by
    have := subI_len (a := a) (b := b) (by simpa using e)
    simp [subI, this]
theorem addI_0 (b : List Int) : addI [] b = [] := by cases b <;> rfl
theorem addI_n (a : List Int) : addI a [] = [] := by cases a <;> rfl
theorem subI_0 (b : List Int) : subI [] b = [] := by cases b <;> rfl
theorem subI_n (a : List Int) : subI a [] = [] := by cases a <;> rfl
theorem lplus_ok {a b : List Int} {S : Store} {Q : MK DV} {E : MX} (hl : a.length ≤ 1000) (q : Q (.tup (intsV (addI a b))) S) : m__law_plus [.tup (intsV a), .tup (intsV b)] S Q E := by
  simp only [app4 m__law_plus_e, app3 b__law_plus_e, mBody_e, startD_e, mNext_e, mSeq_e, mExpr_e, mRet_e, mRetN_e, mIfS_e, mBreak_e, mCont_e, mSet_e, mAsg_e, mPar2_e, mPar3_e, mVar_e, slot_0, slot_s, mC_e, mOp_e, mUn_e, mT_e, mAnd_e, mOr_e, mNot_e, mAndV_e, mOrV_e, mNotV_e, mIf_e, mTup_0, mTup_1, mTup_2, mTup_3, mLst_0, mLst_1, mLst_2, mLst_3, mLst_4, mCall_1, mCall_2, mCallF_1, mCallF_2, mCallF_3, mCallF_4, mFor_e, iR1_e, iZ_e, iE_e, iS_e, mLc_e, mLcO_e, mYes_e, gTg_e, bindT_nm, bindT_1, bindT_2, bindT_3, onEnv_s, onInt_i, onBl_b, onSeq_t, onSeq_l, onSeq_f, onZip_t, onZip_l, onEnum_t, onEnum_l, onT_t, onT_f, onSome_s, fAdd_ii, fAdd_tt, fAdd_ll, fAdd_ss, fSub_ii, fMul_ii, fMul_li, fDiv_ii, fMod_ii, fPow_ii, fNeg_i, fLe_ii, fGt_ii, fGe_ii, fLt_ii, fEq_ii, fEq_ss, fEq_bb, gLen_t, gLen_l, gLen_f, gInt_i, gInt_b, gBool_b, gList_t, gList_l, gList_f, gTuple_t, gTuple_l, gSum_t, gSum_l, fIx_t, fIx_l, fIx_f, fSl_t, fSl_l, fSl_f, fRev_t, fRev_l, wipeD_n, wipeD_c, mPN_e, mPS_e, mSl_e, mDct_e, mChain_e, gMax2_ii, fMulO_li, fMulT_e, iR2_e, fEqN_l, mLst_7, mLst_8, mLst_9, mLst_10, mLst_11, mLst_12, mLst_13, mLst_14, mLst_15, mLst_16, mLst_17, mLst_18, mLst_19, mLst_20, mDcx_e, mMeth_e, mMeth0_e, tyM_str, true_and, mLstO_0, mLstO_1, mLstO_2, mLstO_3, mLstO_4, mTup_4, mLstO_5, mLst_5, mTup_5, mLstO_6, mLst_6, mTup_6, gIsi_non_int, gIsi_non_bool, gIsi_non_tuple, gIsi_non_str, gIsi_non_list, fIs_non, gIsi_bl_int, gIsi_bl_bool, gIsi_bl_tuple, gIsi_bl_str, gIsi_bl_list, fIs_bl, gIsi_int_int, gIsi_int_bool, gIsi_int_tuple, gIsi_int_str, gIsi_int_list, fIs_int, gIsi_str_int, gIsi_str_bool, gIsi_str_tuple, gIsi_str_str, gIsi_str_list, fIs_str, gIsi_tup_int, gIsi_tup_bool, gIsi_tup_tuple, gIsi_tup_str, gIsi_tup_list, fIs_tup, gIsi_lst_int, gIsi_lst_bool, gIsi_lst_tuple, gIsi_lst_str, gIsi_lst_list, fIs_lst, gIsi_frz_int, gIsi_frz_bool, gIsi_frz_tuple, gIsi_frz_str, gIsi_frz_list, fIs_frz, gIsi_dct_int, gIsi_dct_bool, gIsi_dct_tuple, gIsi_dct_str, gIsi_dct_list, fIs_dct, List.map_cons, List.map_nil, List.length_cons, List.length_nil, List.cons_append, List.nil_append, List.set_cons_zero, List.set_cons_succ, List.replicate_zero, List.replicate_succ]
  exact zip_ok (fun x y Q h => by simp only [mBody_e, startD_e, mNext_e, mSeq_e, mExpr_e, mRet_e, mRetN_e, mIfS_e, mBreak_e, mCont_e, mSet_e, mAsg_e, mPar2_e, mPar3_e, mVar_e, slot_0, slot_s, mC_e, mOp_e, mUn_e, mT_e, mAnd_e, mOr_e, mNot_e, mAndV_e, mOrV_e, mNotV_e, mIf_e, mTup_0, mTup_1, mTup_2, mTup_3, mLst_0, mLst_1, mLst_2, mLst_3, mLst_4, mCall_1, mCall_2, mCallF_1, mCallF_2, mCallF_3, mCallF_4, mFor_e, iR1_e, iZ_e, iE_e, iS_e, mLc_e, mLcO_e, mYes_e, gTg_e, bindT_nm, bindT_1, bindT_2, bindT_3, onEnv_s, onInt_i, onBl_b, onSeq_t, onSeq_l, onSeq_f, onZip_t, onZip_l, onEnum_t, onEnum_l, onT_t, onT_f, onSome_s, fAdd_ii, fAdd_tt, fAdd_ll, fAdd_ss, fSub_ii, fMul_ii, fMul_li, fDiv_ii, fMod_ii, fPow_ii, fNeg_i, fLe_ii, fGt_ii, fGe_ii, fLt_ii, fEq_ii, fEq_ss, fEq_bb, gLen_t, gLen_l, gLen_f, gInt_i, gInt_b, gBool_b, gList_t, gList_l, gList_f, gTuple_t, gTuple_l, gSum_t, gSum_l, fIx_t, fIx_l, fIx_f, fSl_t, fSl_l, fSl_f, fRev_t, fRev_l, wipeD_n, wipeD_c, mPN_e, mPS_e, mSl_e, mDct_e, mChain_e, gMax2_ii, fMulO_li, fMulT_e, iR2_e, fEqN_l, mLst_7, mLst_8, mLst_9, mLst_10, mLst_11, mLst_12, mLst_13, mLst_14, mLst_15, mLst_16, mLst_17, mLst_18, mLst_19, mLst_20, mDcx_e, mMeth_e, mMeth0_e, tyM_str, true_and, mLstO_0, mLstO_1, mLstO_2, mLstO_3, mLstO_4, mTup_4, mLstO_5, mLst_5, mTup_5, mLstO_6, mLst_6, mTup_6, gIsi_non_int, gIsi_non_bool, gIsi_non_tuple, gIsi_non_str, gIsi_non_list, fIs_non, gIsi_bl_int, gIsi_bl_bool, gIsi_bl_tuple, gIsi_bl_str, gIsi_bl_list, fIs_bl, gIsi_int_int, gIsi_int_bool, gIsi_int_tuple, gIsi_int_str, gIsi_int_list, fIs_int, gIsi_str_int, gIsi_str_bool, gIsi_str_tuple, gIsi_str_str, gIsi_str_list, fIs_str, gIsi_tup_int, gIsi_tup_bool, gIsi_tup_tuple, gIsi_tup_str, gIsi_tup_list, fIs_tup, gIsi_lst_int, gIsi_lst_bool, gIsi_lst_tuple, gIsi_lst_str, gIsi_lst_list, fIs_lst, gIsi_frz_int, gIsi_frz_bool, gIsi_frz_tuple, gIsi_frz_str, gIsi_frz_list, fIs_frz, gIsi_dct_int, gIsi_dct_bool, gIsi_dct_tuple, gIsi_dct_str, gIsi_dct_list, fIs_dct, List.map_cons, List.map_nil, List.length_cons, List.length_nil, List.cons_append, List.nil_append, List.set_cons_zero, List.set_cons_succ, List.replicate_zero, List.replicate_succ]; exact h) addI addI_0 addI_n (fun _ _ _ _ => rfl) hl q
theorem lless_ok {a b : List Int} {S : Store} {Q : MK DV} {E : MX} (hl : a.length ≤ 1000) (q : Q (.tup (intsV (subI a b))) S) : m__law_less [.tup (intsV a), .tup (intsV b)] S Q E := by
  simp only [app4 m__law_less_e, app3 b__law_less_e, mBody_e, startD_e, mNext_e, mSeq_e, mExpr_e, mRet_e, mRetN_e, mIfS_e, mBreak_e, mCont_e, mSet_e, mAsg_e, mPar2_e, mPar3_e, mVar_e, slot_0, slot_s, mC_e, mOp_e, mUn_e, mT_e, mAnd_e, mOr_e, mNot_e, mAndV_e, mOrV_e, mNotV_e, mIf_e, mTup_0, mTup_1, mTup_2, mTup_3, mLst_0, mLst_1, mLst_2, mLst_3, mLst_4, mCall_1, mCall_2, mCallF_1, mCallF_2, mCallF_3, mCallF_4, mFor_e, iR1_e, iZ_e, iE_e, iS_e, mLc_e, mLcO_e, mYes_e, gTg_e, bindT_nm, bindT_1, bindT_2, bindT_3, onEnv_s, onInt_i, onBl_b, onSeq_t, onSeq_l, onSeq_f, onZip_t, onZip_l, onEnum_t, onEnum_l, onT_t, onT_f, onSome_s, fAdd_ii, fAdd_tt, fAdd_ll, fAdd_ss, fSub_ii, fMul_ii, fMul_li, fDiv_ii, fMod_ii, fPow_ii, fNeg_i, fLe_ii, fGt_ii, fGe_ii, fLt_ii, fEq_ii, fEq_ss, fEq_bb, gLen_t, gLen_l, gLen_f, gInt_i, gInt_b, gBool_b, gList_t, gList_l, gList_f, gTuple_t, gTuple_l, gSum_t, gSum_l, fIx_t, fIx_l, fIx_f, fSl_t, fSl_l, fSl_f, fRev_t, fRev_l, wipeD_n, wipeD_c, mPN_e, mPS_e, mSl_e, mDct_e, mChain_e, gMax2_ii, fMulO_li, fMulT_e, iR2_e, fEqN_l, mLst_7, mLst_8, mLst_9, mLst_10, mLst_11, mLst_12, mLst_13, mLst_14, mLst_15, mLst_16, mLst_17, mLst_18, mLst_19, mLst_20, mDcx_e, mMeth_e, mMeth0_e, tyM_str, true_and, mLstO_0, mLstO_1, mLstO_2, mLstO_3, mLstO_4, mTup_4, mLstO_5, mLst_5, mTup_5, mLstO_6, mLst_6, mTup_6, gIsi_non_int, gIsi_non_bool, gIsi_non_tuple, gIsi_non_str, gIsi_non_list, fIs_non, gIsi_bl_int, gIsi_bl_bool, gIsi_bl_tuple, gIsi_bl_str, gIsi_bl_list, fIs_bl, gIsi_int_int, gIsi_int_bool, gIsi_int_tuple, gIsi_int_str, gIsi_int_list, fIs_int, gIsi_str_int, gIsi_str_bool, gIsi_str_tuple, gIsi_str_str, gIsi_str_list, fIs_str, gIsi_tup_int, gIsi_tup_bool, gIsi_tup_tuple, gIsi_tup_str, gIsi_tup_list, fIs_tup, gIsi_lst_int, gIsi_lst_bool, gIsi_lst_tuple, gIsi_lst_str, gIsi_lst_list, fIs_lst, gIsi_frz_int, gIsi_frz_bool, gIsi_frz_tuple, gIsi_frz_str, gIsi_frz_list, fIs_frz, gIsi_dct_int, gIsi_dct_bool, gIsi_dct_tuple, gIsi_dct_str, gIsi_dct_list, fIs_dct, List.map_cons, List.map_nil, List.length_cons, List.length_nil, List.cons_append, List.nil_append, List.set_cons_zero, List.set_cons_succ, List.replicate_zero, List.replicate_succ]
  exact zip_ok (fun x y Q h => by simp only [mBody_e, startD_e, mNext_e, mSeq_e, mExpr_e, mRet_e, mRetN_e, mIfS_e, mBreak_e, mCont_e, mSet_e, mAsg_e, mPar2_e, mPar3_e, mVar_e, slot_0, slot_s, mC_e, mOp_e, mUn_e, mT_e, mAnd_e, mOr_e, mNot_e, mAndV_e, mOrV_e, mNotV_e, mIf_e, mTup_0, mTup_1, mTup_2, mTup_3, mLst_0, mLst_1, mLst_2, mLst_3, mLst_4, mCall_1, mCall_2, mCallF_1, mCallF_2, mCallF_3, mCallF_4, mFor_e, iR1_e, iZ_e, iE_e, iS_e, mLc_e, mLcO_e, mYes_e, gTg_e, bindT_nm, bindT_1, bindT_2, bindT_3, onEnv_s, onInt_i, onBl_b, onSeq_t, onSeq_l, onSeq_f, onZip_t, onZip_l, onEnum_t, onEnum_l, onT_t, onT_f, onSome_s, fAdd_ii, fAdd_tt, fAdd_ll, fAdd_ss, fSub_ii, fMul_ii, fMul_li, fDiv_ii, fMod_ii, fPow_ii, fNeg_i, fLe_ii, fGt_ii, fGe_ii, fLt_ii, fEq_ii, fEq_ss, fEq_bb, gLen_t, gLen_l, gLen_f, gInt_i, gInt_b, gBool_b, gList_t, gList_l, gList_f, gTuple_t, gTuple_l, gSum_t, gSum_l, fIx_t, fIx_l, fIx_f, fSl_t, fSl_l, fSl_f, fRev_t, fRev_l, wipeD_n, wipeD_c, mPN_e, mPS_e, mSl_e, mDct_e, mChain_e, gMax2_ii, fMulO_li, fMulT_e, iR2_e, fEqN_l, mLst_7, mLst_8, mLst_9, mLst_10, mLst_11, mLst_12, mLst_13, mLst_14, mLst_15, mLst_16, mLst_17, mLst_18, mLst_19, mLst_20, mDcx_e, mMeth_e, mMeth0_e, tyM_str, true_and, mLstO_0, mLstO_1, mLstO_2, mLstO_3, mLstO_4, mTup_4, mLstO_5, mLst_5, mTup_5, mLstO_6, mLst_6, mTup_6, gIsi_non_int, gIsi_non_bool, gIsi_non_tuple, gIsi_non_str, gIsi_non_list, fIs_non, gIsi_bl_int, gIsi_bl_bool, gIsi_bl_tuple, gIsi_bl_str, gIsi_bl_list, fIs_bl, gIsi_int_int, gIsi_int_bool, gIsi_int_tuple, gIsi_int_str, gIsi_int_list, fIs_int, gIsi_str_int, gIsi_str_bool, gIsi_str_tuple, gIsi_str_str, gIsi_str_list, fIs_str, gIsi_tup_int, gIsi_tup_bool, gIsi_tup_tuple, gIsi_tup_str, gIsi_tup_list, fIs_tup, gIsi_lst_int, gIsi_lst_bool, gIsi_lst_tuple, gIsi_lst_str, gIsi_lst_list, fIs_lst, gIsi_frz_int, gIsi_frz_bool, gIsi_frz_tuple, gIsi_frz_str, gIsi_frz_list, fIs_frz, gIsi_dct_int, gIsi_dct_bool, gIsi_dct_tuple, gIsi_dct_str, gIsi_dct_list, fIs_dct, List.map_cons, List.map_nil, List.length_cons, List.length_nil, List.cons_append, List.nil_append, List.set_cons_zero, List.set_cons_succ, List.replicate_zero, List.replicate_succ]; exact h) subI subI_0 subI_n (fun _ _ _ _ => rfl) hl q
/-- so many of one good -/
def besI (g : Nat) (k : Nat) (m : Int) : List Int := (List.range g).map fun i => if i = k then m else 0
theorem besI_len (g k : Nat) (m : Int) : (besI g k m).length = g := by simp [besI]
theorem besI_sum : ∀ (g k : Nat) (m : Int), k < g → (besI g k m).sum = m := by
  have h0 : ∀ (g k : Nat) (m : Int), g ≤ k → (besI g k m).sum = 0 := by
    intro g
    induction g with
    | zero => intro k m h; rfl
    | succ g ih =>
      intro k m h
      have := ih k m (by omega)
      simp only [besI, List.range_succ, List.map_append, List.sum_append] at *
      rw [this]
      simp
      omega
  intro g
  induction g with
  | zero => intro k m h; omega
  | succ g ih =>
    intro k m h
    by_cases e : k = g
    · subst e
      have := h0 k k m (Nat.le_refl _)
      simp only [besI, List.range_succ, List.map_append, List.sum_append] at *
      rw [this]
      simp
    · have := ih k m (by omega)
      simp only [besI, List.range_succ, List.map_append, List.sum_append] at *
      rw [this]
      simp
      omega
theorem besI_mem {g k : Nat} {m x : Int} (h : x ∈ besI g k m) : x = m ∨ x = 0 := by
  simp only [besI, List.mem_map] at h
  obtain ⟨i, _, rfl⟩ := h
  split
  · exact .inl rfl
  · exact .inr rfl
theorem addI_mem : ∀ {a b : List Int} {x : Int}, x ∈ addI a b → ∃ y z, y ∈ a ∧ z ∈ b ∧ x = y + z
  | [], b, x, h => by rw [addI_0] at h; cases h
  | y :: a, [], x, h => by rw [addI_n] at h; cases h
  | y :: a, z :: b, x, h => by
    rcases List.mem_cons.mp (show x ∈ (y + z) :: addI a b from h) with rfl | h
    · exact ⟨y, z, List.mem_cons_self, List.mem_cons_self, rfl⟩
    · obtain ⟨u, v, h1, h2, h3⟩ := addI_mem h
      exact ⟨u, v, List.mem_cons_of_mem _ h1, List.mem_cons_of_mem _ h2, h3⟩
theorem sum_le1 {a : List Int} (h : In0 a) {x : Int} (hx : x ∈ a) : x ≤ a.sum ∧ 0 ≤ a.sum := by
  induction a with
  | nil => cases hx
  | cons y a ih =>
    have hy := h y List.mem_cons_self
    have h' : In0 a := fun z hz => h z (List.mem_cons_of_mem _ hz)
    have h0 : 0 ≤ a.sum := by
      clear ih hx
      induction a with
      | nil => simp
      | cons z a ih =>
        have := h' z List.mem_cons_self
        have := ih (fun w hw => h w (by
          rcases List.mem_cons.mp hw with rfl | hw
          · exact List.mem_cons_self
          · exact List.mem_cons_of_mem _ (List.mem_cons_of_mem _ hw))) (fun w hw => h' w (List.mem_cons_of_mem _ hw))
        simp
        omega
    rw [List.sum_cons]
    rcases List.mem_cons.mp hx with rfl | hx
    · omega
    · have := ih h' hx
      omega
end LB
namespace LB
open PySem PySem.Spec PyProof.Rows L2 DL PySem.W
theorem trade_ok {t g : Nat} {R S : Store} {most : Int} {Q : MK DV} {E : MX} (D : Dk t R S) (hg0 : 0 < g) (hg : g ≤ 100) (hm : 0 ≤ most) (hm2 : most ≤ 4) (ht : t ≤ 10000000)
    (q : ∀ S' r R' t', Dk t' R' S' → R <+: R' → t' ≤ t + 500 → GoodT g most r → Q (rV r) S') : m__law_trade [.ref 1, .int g, .int most] S Q E := by
  have two : ∀ S1 R1 t1, Dk t1 R1 S1 → R <+: R1 → t1 ≤ t + 1 → m__law_side [.ref 1, .int g, .int most] S1 (fun x S2 => m__law_side [.ref 1, .int g, .int most] S2 (fun y S3 => Q (.tup [x, y]) S3) E) E := fun S1 R1 t1 D1 p1 l1 =>
    side_ok D1 hg0 hg hm (by omega) (by omega) fun S2 xs R2 t2 D2 p2 l2 h1 h2 h3 =>
      side_ok D2 hg0 hg hm (by omega) (by omega) fun S3 ys R3 t3 D3 p3 l3 g1 g2 g3 =>
        q S3 (xs, ys) R3 t3 D3 ((p1.trans p2).trans p3) (by omega) ⟨h1, g1, h2, g2, h3, g3⟩
  simp only [app4 m__law_trade_e, app3 b__law_trade_e, mBody_e, startD_e, mNext_e, mSeq_e, mExpr_e, mRet_e, mRetN_e, mIfS_e, mBreak_e, mCont_e, mSet_e, mAsg_e, mPar2_e, mPar3_e, mVar_e, slot_0, slot_s, mC_e, mOp_e, mUn_e, mT_e, mAnd_e, mOr_e, mNot_e, mAndV_e, mOrV_e, mNotV_e, mIf_e, mTup_0, mTup_1, mTup_2, mTup_3, mLst_0, mLst_1, mLst_2, mLst_3, mLst_4, mCall_1, mCall_2, mCallF_1, mCallF_2, mCallF_3, mCallF_4, mFor_e, iR1_e, iZ_e, iE_e, iS_e, mLc_e, mLcO_e, mYes_e, gTg_e, bindT_nm, bindT_1, bindT_2, bindT_3, onEnv_s, onInt_i, onBl_b, onSeq_t, onSeq_l, onSeq_f, onZip_t, onZip_l, onEnum_t, onEnum_l, onT_t, onT_f, onSome_s, fAdd_ii, fAdd_tt, fAdd_ll, fAdd_ss, fSub_ii, fMul_ii, fMul_li, fDiv_ii, fMod_ii, fPow_ii, fNeg_i, fLe_ii, fGt_ii, fGe_ii, fLt_ii, fEq_ii, fEq_ss, fEq_bb, gLen_t, gLen_l, gLen_f, gInt_i, gInt_b, gBool_b, gList_t, gList_l, gList_f, gTuple_t, gTuple_l, gSum_t, gSum_l, fIx_t, fIx_l, fIx_f, fSl_t, fSl_l, fSl_f, fRev_t, fRev_l, wipeD_n, wipeD_c, mPN_e, mPS_e, mSl_e, mDct_e, mChain_e, gMax2_ii, fMulO_li, fMulT_e, iR2_e, fEqN_l, mLst_7, mLst_8, mLst_9, mLst_10, mLst_11, mLst_12, mLst_13, mLst_14, mLst_15, mLst_16, mLst_17, mLst_18, mLst_19, mLst_20, mDcx_e, mMeth_e, mMeth0_e, tyM_str, true_and, mLstO_0, mLstO_1, mLstO_2, mLstO_3, mLstO_4, mTup_4, mLstO_5, mLst_5, mTup_5, mLstO_6, mLst_6, mTup_6, gIsi_non_int, gIsi_non_bool, gIsi_non_tuple, gIsi_non_str, gIsi_non_list, fIs_non, gIsi_bl_int, gIsi_bl_bool, gIsi_bl_tuple, gIsi_bl_str, gIsi_bl_list, fIs_bl, gIsi_int_int, gIsi_int_bool, gIsi_int_tuple, gIsi_int_str, gIsi_int_list, fIs_int, gIsi_str_int, gIsi_str_bool, gIsi_str_tuple, gIsi_str_str, gIsi_str_list, fIs_str, gIsi_tup_int, gIsi_tup_bool, gIsi_tup_tuple, gIsi_tup_str, gIsi_tup_list, fIs_tup, gIsi_lst_int, gIsi_lst_bool, gIsi_lst_tuple, gIsi_lst_str, gIsi_lst_list, fIs_lst, gIsi_frz_int, gIsi_frz_bool, gIsi_frz_tuple, gIsi_frz_str, gIsi_frz_list, fIs_frz, gIsi_dct_int, gIsi_dct_bool, gIsi_dct_tuple, gIsi_dct_str, gIsi_dct_list, fIs_dct, List.map_cons, List.map_nil, List.length_cons, List.length_nil, List.cons_append, List.nil_append, List.set_cons_zero, List.set_cons_succ, List.replicate_zero, List.replicate_succ]
  by_cases h3 : most < 3
  · simp only [decide_eq_true h3, mBody_e, startD_e, mNext_e, mSeq_e, mExpr_e, mRet_e, mRetN_e, mIfS_e, mBreak_e, mCont_e, mSet_e, mAsg_e, mPar2_e, mPar3_e, mVar_e, slot_0, slot_s, mC_e, mOp_e, mUn_e, mT_e, mAnd_e, mOr_e, mNot_e, mAndV_e, mOrV_e, mNotV_e, mIf_e, mTup_0, mTup_1, mTup_2, mTup_3, mLst_0, mLst_1, mLst_2, mLst_3, mLst_4, mCall_1, mCall_2, mCallF_1, mCallF_2, mCallF_3, mCallF_4, mFor_e, iR1_e, iZ_e, iE_e, iS_e, mLc_e, mLcO_e, mYes_e, gTg_e, bindT_nm, bindT_1, bindT_2, bindT_3, onEnv_s, onInt_i, onBl_b, onSeq_t, onSeq_l, onSeq_f, onZip_t, onZip_l, onEnum_t, onEnum_l, onT_t, onT_f, onSome_s, fAdd_ii, fAdd_tt, fAdd_ll, fAdd_ss, fSub_ii, fMul_ii, fMul_li, fDiv_ii, fMod_ii, fPow_ii, fNeg_i, fLe_ii, fGt_ii, fGe_ii, fLt_ii, fEq_ii, fEq_ss, fEq_bb, gLen_t, gLen_l, gLen_f, gInt_i, gInt_b, gBool_b, gList_t, gList_l, gList_f, gTuple_t, gTuple_l, gSum_t, gSum_l, fIx_t, fIx_l, fIx_f, fSl_t, fSl_l, fSl_f, fRev_t, fRev_l, wipeD_n, wipeD_c, mPN_e, mPS_e, mSl_e, mDct_e, mChain_e, gMax2_ii, fMulO_li, fMulT_e, iR2_e, fEqN_l, mLst_7, mLst_8, mLst_9, mLst_10, mLst_11, mLst_12, mLst_13, mLst_14, mLst_15, mLst_16, mLst_17, mLst_18, mLst_19, mLst_20, mDcx_e, mMeth_e, mMeth0_e, tyM_str, true_and, mLstO_0, mLstO_1, mLstO_2, mLstO_3, mLstO_4, mTup_4, mLstO_5, mLst_5, mTup_5, mLstO_6, mLst_6, mTup_6, gIsi_non_int, gIsi_non_bool, gIsi_non_tuple, gIsi_non_str, gIsi_non_list, fIs_non, gIsi_bl_int, gIsi_bl_bool, gIsi_bl_tuple, gIsi_bl_str, gIsi_bl_list, fIs_bl, gIsi_int_int, gIsi_int_bool, gIsi_int_tuple, gIsi_int_str, gIsi_int_list, fIs_int, gIsi_str_int, gIsi_str_bool, gIsi_str_tuple, gIsi_str_str, gIsi_str_list, fIs_str, gIsi_tup_int, gIsi_tup_bool, gIsi_tup_tuple, gIsi_tup_str, gIsi_tup_list, fIs_tup, gIsi_lst_int, gIsi_lst_bool, gIsi_lst_tuple, gIsi_lst_str, gIsi_lst_list, fIs_lst, gIsi_frz_int, gIsi_frz_bool, gIsi_frz_tuple, gIsi_frz_str, gIsi_frz_list, fIs_frz, gIsi_dct_int, gIsi_dct_bool, gIsi_dct_tuple, gIsi_dct_str, gIsi_dct_list, fIs_dct]
    exact two S R t D (List.prefix_refl R) (by omega)
  · simp only [decide_eq_false h3, mBody_e, startD_e, mNext_e, mSeq_e, mExpr_e, mRet_e, mRetN_e, mIfS_e, mBreak_e, mCont_e, mSet_e, mAsg_e, mPar2_e, mPar3_e, mVar_e, slot_0, slot_s, mC_e, mOp_e, mUn_e, mT_e, mAnd_e, mOr_e, mNot_e, mAndV_e, mOrV_e, mNotV_e, mIf_e, mTup_0, mTup_1, mTup_2, mTup_3, mLst_0, mLst_1, mLst_2, mLst_3, mLst_4, mCall_1, mCall_2, mCallF_1, mCallF_2, mCallF_3, mCallF_4, mFor_e, iR1_e, iZ_e, iE_e, iS_e, mLc_e, mLcO_e, mYes_e, gTg_e, bindT_nm, bindT_1, bindT_2, bindT_3, onEnv_s, onInt_i, onBl_b, onSeq_t, onSeq_l, onSeq_f, onZip_t, onZip_l, onEnum_t, onEnum_l, onT_t, onT_f, onSome_s, fAdd_ii, fAdd_tt, fAdd_ll, fAdd_ss, fSub_ii, fMul_ii, fMul_li, fDiv_ii, fMod_ii, fPow_ii, fNeg_i, fLe_ii, fGt_ii, fGe_ii, fLt_ii, fEq_ii, fEq_ss, fEq_bb, gLen_t, gLen_l, gLen_f, gInt_i, gInt_b, gBool_b, gList_t, gList_l, gList_f, gTuple_t, gTuple_l, gSum_t, gSum_l, fIx_t, fIx_l, fIx_f, fSl_t, fSl_l, fSl_f, fRev_t, fRev_l, wipeD_n, wipeD_c, mPN_e, mPS_e, mSl_e, mDct_e, mChain_e, gMax2_ii, fMulO_li, fMulT_e, iR2_e, fEqN_l, mLst_7, mLst_8, mLst_9, mLst_10, mLst_11, mLst_12, mLst_13, mLst_14, mLst_15, mLst_16, mLst_17, mLst_18, mLst_19, mLst_20, mDcx_e, mMeth_e, mMeth0_e, tyM_str, true_and, mLstO_0, mLstO_1, mLstO_2, mLstO_3, mLstO_4, mTup_4, mLstO_5, mLst_5, mTup_5, mLstO_6, mLst_6, mTup_6, gIsi_non_int, gIsi_non_bool, gIsi_non_tuple, gIsi_non_str, gIsi_non_list, fIs_non, gIsi_bl_int, gIsi_bl_bool, gIsi_bl_tuple, gIsi_bl_str, gIsi_bl_list, fIs_bl, gIsi_int_int, gIsi_int_bool, gIsi_int_tuple, gIsi_int_str, gIsi_int_list, fIs_int, gIsi_str_int, gIsi_str_bool, gIsi_str_tuple, gIsi_str_str, gIsi_str_list, fIs_str, gIsi_tup_int, gIsi_tup_bool, gIsi_tup_tuple, gIsi_tup_str, gIsi_tup_list, fIs_tup, gIsi_lst_int, gIsi_lst_bool, gIsi_lst_tuple, gIsi_lst_str, gIsi_lst_list, fIs_lst, gIsi_frz_int, gIsi_frz_bool, gIsi_frz_tuple, gIsi_frz_str, gIsi_frz_list, fIs_frz, gIsi_dct_int, gIsi_dct_bool, gIsi_dct_tuple, gIsi_dct_str, gIsi_dct_list, fIs_dct]
    refine draw_ok D (by omega) (by omega) (by omega) fun S1 d D1 hd0 hd1 => ?_
    by_cases hz : d = 0
    · simp only [decide_eq_true hz, mBody_e, startD_e, mNext_e, mSeq_e, mExpr_e, mRet_e, mRetN_e, mIfS_e, mBreak_e, mCont_e, mSet_e, mAsg_e, mPar2_e, mPar3_e, mVar_e, slot_0, slot_s, mC_e, mOp_e, mUn_e, mT_e, mAnd_e, mOr_e, mNot_e, mAndV_e, mOrV_e, mNotV_e, mIf_e, mTup_0, mTup_1, mTup_2, mTup_3, mLst_0, mLst_1, mLst_2, mLst_3, mLst_4, mCall_1, mCall_2, mCallF_1, mCallF_2, mCallF_3, mCallF_4, mFor_e, iR1_e, iZ_e, iE_e, iS_e, mLc_e, mLcO_e, mYes_e, gTg_e, bindT_nm, bindT_1, bindT_2, bindT_3, onEnv_s, onInt_i, onBl_b, onSeq_t, onSeq_l, onSeq_f, onZip_t, onZip_l, onEnum_t, onEnum_l, onT_t, onT_f, onSome_s, fAdd_ii, fAdd_tt, fAdd_ll, fAdd_ss, fSub_ii, fMul_ii, fMul_li, fDiv_ii, fMod_ii, fPow_ii, fNeg_i, fLe_ii, fGt_ii, fGe_ii, fLt_ii, fEq_ii, fEq_ss, fEq_bb, gLen_t, gLen_l, gLen_f, gInt_i, gInt_b, gBool_b, gList_t, gList_l, gList_f, gTuple_t, gTuple_l, gSum_t, gSum_l, fIx_t, fIx_l, fIx_f, fSl_t, fSl_l, fSl_f, fRev_t, fRev_l, wipeD_n, wipeD_c, mPN_e, mPS_e, mSl_e, mDct_e, mChain_e, gMax2_ii, fMulO_li, fMulT_e, iR2_e, fEqN_l, mLst_7, mLst_8, mLst_9, mLst_10, mLst_11, mLst_12, mLst_13, mLst_14, mLst_15, mLst_16, mLst_17, mLst_18, mLst_19, mLst_20, mDcx_e, mMeth_e, mMeth0_e, tyM_str, true_and, mLstO_0, mLstO_1, mLstO_2, mLstO_3, mLstO_4, mTup_4, mLstO_5, mLst_5, mTup_5, mLstO_6, mLst_6, mTup_6, gIsi_non_int, gIsi_non_bool, gIsi_non_tuple, gIsi_non_str, gIsi_non_list, fIs_non, gIsi_bl_int, gIsi_bl_bool, gIsi_bl_tuple, gIsi_bl_str, gIsi_bl_list, fIs_bl, gIsi_int_int, gIsi_int_bool, gIsi_int_tuple, gIsi_int_str, gIsi_int_list, fIs_int, gIsi_str_int, gIsi_str_bool, gIsi_str_tuple, gIsi_str_str, gIsi_str_list, fIs_str, gIsi_tup_int, gIsi_tup_bool, gIsi_tup_tuple, gIsi_tup_str, gIsi_tup_list, fIs_tup, gIsi_lst_int, gIsi_lst_bool, gIsi_lst_tuple, gIsi_lst_str, gIsi_lst_list, fIs_lst, gIsi_frz_int, gIsi_frz_bool, gIsi_frz_tuple, gIsi_frz_str, gIsi_frz_list, fIs_frz, gIsi_dct_int, gIsi_dct_bool, gIsi_dct_tuple, gIsi_dct_str, gIsi_dct_list, fIs_dct]
      exact two S1 R (t + 1) D1 (List.prefix_refl R) (by omega)
    · simp only [decide_eq_false hz, mBody_e, startD_e, mNext_e, mSeq_e, mExpr_e, mRet_e, mRetN_e, mIfS_e, mBreak_e, mCont_e, mSet_e, mAsg_e, mPar2_e, mPar3_e, mVar_e, slot_0, slot_s, mC_e, mOp_e, mUn_e, mT_e, mAnd_e, mOr_e, mNot_e, mAndV_e, mOrV_e, mNotV_e, mIf_e, mTup_0, mTup_1, mTup_2, mTup_3, mLst_0, mLst_1, mLst_2, mLst_3, mLst_4, mCall_1, mCall_2, mCallF_1, mCallF_2, mCallF_3, mCallF_4, mFor_e, iR1_e, iZ_e, iE_e, iS_e, mLc_e, mLcO_e, mYes_e, gTg_e, bindT_nm, bindT_1, bindT_2, bindT_3, onEnv_s, onInt_i, onBl_b, onSeq_t, onSeq_l, onSeq_f, onZip_t, onZip_l, onEnum_t, onEnum_l, onT_t, onT_f, onSome_s, fAdd_ii, fAdd_tt, fAdd_ll, fAdd_ss, fSub_ii, fMul_ii, fMul_li, fDiv_ii, fMod_ii, fPow_ii, fNeg_i, fLe_ii, fGt_ii, fGe_ii, fLt_ii, fEq_ii, fEq_ss, fEq_bb, gLen_t, gLen_l, gLen_f, gInt_i, gInt_b, gBool_b, gList_t, gList_l, gList_f, gTuple_t, gTuple_l, gSum_t, gSum_l, fIx_t, fIx_l, fIx_f, fSl_t, fSl_l, fSl_f, fRev_t, fRev_l, wipeD_n, wipeD_c, mPN_e, mPS_e, mSl_e, mDct_e, mChain_e, gMax2_ii, fMulO_li, fMulT_e, iR2_e, fEqN_l, mLst_7, mLst_8, mLst_9, mLst_10, mLst_11, mLst_12, mLst_13, mLst_14, mLst_15, mLst_16, mLst_17, mLst_18, mLst_19, mLst_20, mDcx_e, mMeth_e, mMeth0_e, tyM_str, true_and, mLstO_0, mLstO_1, mLstO_2, mLstO_3, mLstO_4, mTup_4, mLstO_5, mLst_5, mTup_5, mLstO_6, mLst_6, mTup_6, gIsi_non_int, gIsi_non_bool, gIsi_non_tuple, gIsi_non_str, gIsi_non_list, fIs_non, gIsi_bl_int, gIsi_bl_bool, gIsi_bl_tuple, gIsi_bl_str, gIsi_bl_list, fIs_bl, gIsi_int_int, gIsi_int_bool, gIsi_int_tuple, gIsi_int_str, gIsi_int_list, fIs_int, gIsi_str_int, gIsi_str_bool, gIsi_str_tuple, gIsi_str_str, gIsi_str_list, fIs_str, gIsi_tup_int, gIsi_tup_bool, gIsi_tup_tuple, gIsi_tup_str, gIsi_tup_list, fIs_tup, gIsi_lst_int, gIsi_lst_bool, gIsi_lst_tuple, gIsi_lst_str, gIsi_lst_list, fIs_lst, gIsi_frz_int, gIsi_frz_bool, gIsi_frz_tuple, gIsi_frz_str, gIsi_frz_list, fIs_frz, gIsi_dct_int, gIsi_dct_bool, gIsi_dct_tuple, gIsi_dct_str, gIsi_dct_list, fIs_dct, app3 r__law_trade_4_e, List.map_cons, List.map_nil, List.length_cons, List.length_nil, List.cons_append, List.nil_append, List.set_cons_zero, List.set_cons_succ, List.replicate_zero, List.replicate_succ]
      refine draw_ok D1 (by omega) (by omega) (by omega) fun S2 at_ D2 ha0 ha1 => ?_
      obtain ⟨k, rfl⟩ := Int.eq_ofNat_of_zero_le ha0
      refine draw_ok D2 (by omega) (by omega) (by omega) fun S3 e D3 he0 he1 => ?_
      have he2 : 1 + e = 1 ∨ 1 + e = 2 := by omega
      simp only [app3 r__law_trade_3_e, mBody_e, startD_e, mNext_e, mSeq_e, mExpr_e, mRet_e, mRetN_e, mIfS_e, mBreak_e, mCont_e, mSet_e, mAsg_e, mPar2_e, mPar3_e, mVar_e, slot_0, slot_s, mC_e, mOp_e, mUn_e, mT_e, mAnd_e, mOr_e, mNot_e, mAndV_e, mOrV_e, mNotV_e, mIf_e, mTup_0, mTup_1, mTup_2, mTup_3, mLst_0, mLst_1, mLst_2, mLst_3, mLst_4, mCall_1, mCall_2, mCallF_1, mCallF_2, mCallF_3, mCallF_4, mFor_e, iR1_e, iZ_e, iE_e, iS_e, mLc_e, mLcO_e, mYes_e, gTg_e, bindT_nm, bindT_1, bindT_2, bindT_3, onEnv_s, onInt_i, onBl_b, onSeq_t, onSeq_l, onSeq_f, onZip_t, onZip_l, onEnum_t, onEnum_l, onT_t, onT_f, onSome_s, fAdd_ii, fAdd_tt, fAdd_ll, fAdd_ss, fSub_ii, fMul_ii, fMul_li, fDiv_ii, fMod_ii, fPow_ii, fNeg_i, fLe_ii, fGt_ii, fGe_ii, fLt_ii, fEq_ii, fEq_ss, fEq_bb, gLen_t, gLen_l, gLen_f, gInt_i, gInt_b, gBool_b, gList_t, gList_l, gList_f, gTuple_t, gTuple_l, gSum_t, gSum_l, fIx_t, fIx_l, fIx_f, fSl_t, fSl_l, fSl_f, fRev_t, fRev_l, wipeD_n, wipeD_c, mPN_e, mPS_e, mSl_e, mDct_e, mChain_e, gMax2_ii, fMulO_li, fMulT_e, iR2_e, fEqN_l, mLst_7, mLst_8, mLst_9, mLst_10, mLst_11, mLst_12, mLst_13, mLst_14, mLst_15, mLst_16, mLst_17, mLst_18, mLst_19, mLst_20, mDcx_e, mMeth_e, mMeth0_e, tyM_str, true_and, mLstO_0, mLstO_1, mLstO_2, mLstO_3, mLstO_4, mTup_4, mLstO_5, mLst_5, mTup_5, mLstO_6, mLst_6, mTup_6, gIsi_non_int, gIsi_non_bool, gIsi_non_tuple, gIsi_non_str, gIsi_non_list, fIs_non, gIsi_bl_int, gIsi_bl_bool, gIsi_bl_tuple, gIsi_bl_str, gIsi_bl_list, fIs_bl, gIsi_int_int, gIsi_int_bool, gIsi_int_tuple, gIsi_int_str, gIsi_int_list, fIs_int, gIsi_str_int, gIsi_str_bool, gIsi_str_tuple, gIsi_str_str, gIsi_str_list, fIs_str, gIsi_tup_int, gIsi_tup_bool, gIsi_tup_tuple, gIsi_tup_str, gIsi_tup_list, fIs_tup, gIsi_lst_int, gIsi_lst_bool, gIsi_lst_tuple, gIsi_lst_str, gIsi_lst_list, fIs_lst, gIsi_frz_int, gIsi_frz_bool, gIsi_frz_tuple, gIsi_frz_str, gIsi_frz_list, fIs_frz, gIsi_dct_int, gIsi_dct_bool, gIsi_dct_tuple, gIsi_dct_str, gIsi_dct_list, fIs_dct, List.map_cons, List.map_nil, List.length_cons, List.length_nil, List.cons_append, List.nil_append, List.set_cons_zero, List.set_cons_succ, List.replicate_zero, List.replicate_succ, Int.toNat_natCast]
      obtain ⟨many, hmany⟩ : ∃ m, m = 1 + e := ⟨_, rfl⟩
      rw [← hmany] at he2 ⊢
      refine ⟨by omega, by omega, ?_⟩
      rw [rng0_eq]
      refine lc_m (fun i : Nat => DV.int i) (fun i => DV.int (if i = k then many else 0)) _ (by simp; omega) (fun i hi => ⟨_, rfl, fun Qc h => ?_⟩) ?_
      · simp only [mBody_e, startD_e, mNext_e, mSeq_e, mExpr_e, mRet_e, mRetN_e, mIfS_e, mBreak_e, mCont_e, mSet_e, mAsg_e, mPar2_e, mPar3_e, mVar_e, slot_0, slot_s, mC_e, mOp_e, mUn_e, mT_e, mAnd_e, mOr_e, mNot_e, mAndV_e, mOrV_e, mNotV_e, mIf_e, mTup_0, mTup_1, mTup_2, mTup_3, mLst_0, mLst_1, mLst_2, mLst_3, mLst_4, mCall_1, mCall_2, mCallF_1, mCallF_2, mCallF_3, mCallF_4, mFor_e, iR1_e, iZ_e, iE_e, iS_e, mLc_e, mLcO_e, mYes_e, gTg_e, bindT_nm, bindT_1, bindT_2, bindT_3, onEnv_s, onInt_i, onBl_b, onSeq_t, onSeq_l, onSeq_f, onZip_t, onZip_l, onEnum_t, onEnum_l, onT_t, onT_f, onSome_s, fAdd_ii, fAdd_tt, fAdd_ll, fAdd_ss, fSub_ii, fMul_ii, fMul_li, fDiv_ii, fMod_ii, fPow_ii, fNeg_i, fLe_ii, fGt_ii, fGe_ii, fLt_ii, fEq_ii, fEq_ss, fEq_bb, gLen_t, gLen_l, gLen_f, gInt_i, gInt_b, gBool_b, gList_t, gList_l, gList_f, gTuple_t, gTuple_l, gSum_t, gSum_l, fIx_t, fIx_l, fIx_f, fSl_t, fSl_l, fSl_f, fRev_t, fRev_l, wipeD_n, wipeD_c, mPN_e, mPS_e, mSl_e, mDct_e, mChain_e, gMax2_ii, fMulO_li, fMulT_e, iR2_e, fEqN_l, mLst_7, mLst_8, mLst_9, mLst_10, mLst_11, mLst_12, mLst_13, mLst_14, mLst_15, mLst_16, mLst_17, mLst_18, mLst_19, mLst_20, mDcx_e, mMeth_e, mMeth0_e, tyM_str, true_and, mLstO_0, mLstO_1, mLstO_2, mLstO_3, mLstO_4, mTup_4, mLstO_5, mLst_5, mTup_5, mLstO_6, mLst_6, mTup_6, gIsi_non_int, gIsi_non_bool, gIsi_non_tuple, gIsi_non_str, gIsi_non_list, fIs_non, gIsi_bl_int, gIsi_bl_bool, gIsi_bl_tuple, gIsi_bl_str, gIsi_bl_list, fIs_bl, gIsi_int_int, gIsi_int_bool, gIsi_int_tuple, gIsi_int_str, gIsi_int_list, fIs_int, gIsi_str_int, gIsi_str_bool, gIsi_str_tuple, gIsi_str_str, gIsi_str_list, fIs_str, gIsi_tup_int, gIsi_tup_bool, gIsi_tup_tuple, gIsi_tup_str, gIsi_tup_list, fIs_tup, gIsi_lst_int, gIsi_lst_bool, gIsi_lst_tuple, gIsi_lst_str, gIsi_lst_list, fIs_lst, gIsi_frz_int, gIsi_frz_bool, gIsi_frz_tuple, gIsi_frz_str, gIsi_frz_list, fIs_frz, gIsi_dct_int, gIsi_dct_bool, gIsi_dct_tuple, gIsi_dct_str, gIsi_dct_list, fIs_dct, List.map_cons, List.map_nil, List.length_cons, List.length_nil, List.cons_append, List.nil_append, List.set_cons_zero, List.set_cons_succ, List.replicate_zero, List.replicate_succ]
        by_cases c : i = k
        · subst c
          rw [if_pos rfl] at h
          simp only [decide_true, if_true, Int.mul_one]
          exact ⟨mulOk_r (by decide) (by decide), h⟩
        · rw [if_neg c] at h
          simp only [decide_eq_false (show ¬ (i : Int) = (k : Int) by omega), Bool.false_eq_true, if_false, Int.mul_zero]
          exact ⟨mulOk_r (by decide) (by decide), h⟩
      · have eb : (List.range g).map (fun i => DV.int (if i = k then many else 0)) = intsV (besI g k many) := by
          unfold intsV besI
          rw [List.map_map]
          rfl
        rw [eb]
        simp only [app3 r__law_trade_2_e, mBody_e, startD_e, mNext_e, mSeq_e, mExpr_e, mRet_e, mRetN_e, mIfS_e, mBreak_e, mCont_e, mSet_e, mAsg_e, mPar2_e, mPar3_e, mVar_e, slot_0, slot_s, mC_e, mOp_e, mUn_e, mT_e, mAnd_e, mOr_e, mNot_e, mAndV_e, mOrV_e, mNotV_e, mIf_e, mTup_0, mTup_1, mTup_2, mTup_3, mLst_0, mLst_1, mLst_2, mLst_3, mLst_4, mCall_1, mCall_2, mCallF_1, mCallF_2, mCallF_3, mCallF_4, mFor_e, iR1_e, iZ_e, iE_e, iS_e, mLc_e, mLcO_e, mYes_e, gTg_e, bindT_nm, bindT_1, bindT_2, bindT_3, onEnv_s, onInt_i, onBl_b, onSeq_t, onSeq_l, onSeq_f, onZip_t, onZip_l, onEnum_t, onEnum_l, onT_t, onT_f, onSome_s, fAdd_ii, fAdd_tt, fAdd_ll, fAdd_ss, fSub_ii, fMul_ii, fMul_li, fDiv_ii, fMod_ii, fPow_ii, fNeg_i, fLe_ii, fGt_ii, fGe_ii, fLt_ii, fEq_ii, fEq_ss, fEq_bb, gLen_t, gLen_l, gLen_f, gInt_i, gInt_b, gBool_b, gList_t, gList_l, gList_f, gTuple_t, gTuple_l, gSum_t, gSum_l, fIx_t, fIx_l, fIx_f, fSl_t, fSl_l, fSl_f, fRev_t, fRev_l, wipeD_n, wipeD_c, mPN_e, mPS_e, mSl_e, mDct_e, mChain_e, gMax2_ii, fMulO_li, fMulT_e, iR2_e, fEqN_l, mLst_7, mLst_8, mLst_9, mLst_10, mLst_11, mLst_12, mLst_13, mLst_14, mLst_15, mLst_16, mLst_17, mLst_18, mLst_19, mLst_20, mDcx_e, mMeth_e, mMeth0_e, tyM_str, true_and, mLstO_0, mLstO_1, mLstO_2, mLstO_3, mLstO_4, mTup_4, mLstO_5, mLst_5, mTup_5, mLstO_6, mLst_6, mTup_6, gIsi_non_int, gIsi_non_bool, gIsi_non_tuple, gIsi_non_str, gIsi_non_list, fIs_non, gIsi_bl_int, gIsi_bl_bool, gIsi_bl_tuple, gIsi_bl_str, gIsi_bl_list, fIs_bl, gIsi_int_int, gIsi_int_bool, gIsi_int_tuple, gIsi_int_str, gIsi_int_list, fIs_int, gIsi_str_int, gIsi_str_bool, gIsi_str_tuple, gIsi_str_str, gIsi_str_list, fIs_str, gIsi_tup_int, gIsi_tup_bool, gIsi_tup_tuple, gIsi_tup_str, gIsi_tup_list, fIs_tup, gIsi_lst_int, gIsi_lst_bool, gIsi_lst_tuple, gIsi_lst_str, gIsi_lst_list, fIs_lst, gIsi_frz_int, gIsi_frz_bool, gIsi_frz_tuple, gIsi_frz_str, gIsi_frz_list, fIs_frz, gIsi_dct_int, gIsi_dct_bool, gIsi_dct_tuple, gIsi_dct_str, gIsi_dct_list, fIs_dct, List.map_cons, List.map_nil, List.length_cons, List.length_nil, List.cons_append, List.nil_append, List.set_cons_zero, List.set_cons_succ, List.replicate_zero, List.replicate_succ]
        have bm : ∀ x ∈ besI g k many, 0 ≤ x ∧ x ≤ many := fun x hx => by
          rcases besI_mem hx with rfl | rfl <;> omega
        have bs := besI_sum g k many (by omega)
        have bl := besI_len g k many
        refine side_ok D3 hg0 hg (by omega) (by omega) (by omega) fun S4 xs R4 t4 D4 p4 l4 h1 h2 h3' => ?_
        refine side_ok D4 hg0 hg (by omega) (by omega) (by omega) fun S5 ys R5 t5 D5 p5 l5 g1 g2 g3 => ?_
        simp only [app3 r__law_trade_1_e, mBody_e, startD_e, mNext_e, mSeq_e, mExpr_e, mRet_e, mRetN_e, mIfS_e, mBreak_e, mCont_e, mSet_e, mAsg_e, mPar2_e, mPar3_e, mVar_e, slot_0, slot_s, mC_e, mOp_e, mUn_e, mT_e, mAnd_e, mOr_e, mNot_e, mAndV_e, mOrV_e, mNotV_e, mIf_e, mTup_0, mTup_1, mTup_2, mTup_3, mLst_0, mLst_1, mLst_2, mLst_3, mLst_4, mCall_1, mCall_2, mCallF_1, mCallF_2, mCallF_3, mCallF_4, mFor_e, iR1_e, iZ_e, iE_e, iS_e, mLc_e, mLcO_e, mYes_e, gTg_e, bindT_nm, bindT_1, bindT_2, bindT_3, onEnv_s, onInt_i, onBl_b, onSeq_t, onSeq_l, onSeq_f, onZip_t, onZip_l, onEnum_t, onEnum_l, onT_t, onT_f, onSome_s, fAdd_ii, fAdd_tt, fAdd_ll, fAdd_ss, fSub_ii, fMul_ii, fMul_li, fDiv_ii, fMod_ii, fPow_ii, fNeg_i, fLe_ii, fGt_ii, fGe_ii, fLt_ii, fEq_ii, fEq_ss, fEq_bb, gLen_t, gLen_l, gLen_f, gInt_i, gInt_b, gBool_b, gList_t, gList_l, gList_f, gTuple_t, gTuple_l, gSum_t, gSum_l, fIx_t, fIx_l, fIx_f, fSl_t, fSl_l, fSl_f, fRev_t, fRev_l, wipeD_n, wipeD_c, mPN_e, mPS_e, mSl_e, mDct_e, mChain_e, gMax2_ii, fMulO_li, fMulT_e, iR2_e, fEqN_l, mLst_7, mLst_8, mLst_9, mLst_10, mLst_11, mLst_12, mLst_13, mLst_14, mLst_15, mLst_16, mLst_17, mLst_18, mLst_19, mLst_20, mDcx_e, mMeth_e, mMeth0_e, tyM_str, true_and, mLstO_0, mLstO_1, mLstO_2, mLstO_3, mLstO_4, mTup_4, mLstO_5, mLst_5, mTup_5, mLstO_6, mLst_6, mTup_6, gIsi_non_int, gIsi_non_bool, gIsi_non_tuple, gIsi_non_str, gIsi_non_list, fIs_non, gIsi_bl_int, gIsi_bl_bool, gIsi_bl_tuple, gIsi_bl_str, gIsi_bl_list, fIs_bl, gIsi_int_int, gIsi_int_bool, gIsi_int_tuple, gIsi_int_str, gIsi_int_list, fIs_int, gIsi_str_int, gIsi_str_bool, gIsi_str_tuple, gIsi_str_str, gIsi_str_list, fIs_str, gIsi_tup_int, gIsi_tup_bool, gIsi_tup_tuple, gIsi_tup_str, gIsi_tup_list, fIs_tup, gIsi_lst_int, gIsi_lst_bool, gIsi_lst_tuple, gIsi_lst_str, gIsi_lst_list, fIs_lst, gIsi_frz_int, gIsi_frz_bool, gIsi_frz_tuple, gIsi_frz_str, gIsi_frz_list, fIs_frz, gIsi_dct_int, gIsi_dct_bool, gIsi_dct_tuple, gIsi_dct_str, gIsi_dct_list, fIs_dct, List.map_cons, List.map_nil, List.length_cons, List.length_nil, List.cons_append, List.nil_append, List.set_cons_zero, List.set_cons_succ, List.replicate_zero, List.replicate_succ]
        have one : ∀ {zs : List Int} {c : Int}, zs.length = g → In0 zs → zs.sum ≤ c → c + many ≤ 3 → c + many ≤ most → (addI zs (besI g k many)).length = g ∧ In0 (addI zs (besI g k many)) ∧ (addI zs (besI g k many)).sum ≤ most := by
          intro zs c z1 z2 z3 z4 z5
          have el : zs.length = (besI g k many).length := by rw [z1, bl]
          refine ⟨by rw [addI_len el, z1], fun x hx => ?_, by rw [addI_sum el, bs]; omega⟩
          obtain ⟨y, z, hy, hz, rfl⟩ := addI_mem hx
          have b1 := bm z hz
          have b2 := z2 y hy
          have b3 := sum_le1 z2 hy
          omega
        have w1 := one (c := 1) h1 h2 h3' (by omega) (by omega)
        by_cases hm1 : many < 2
        · simp only [decide_eq_true hm1, mBody_e, startD_e, mNext_e, mSeq_e, mExpr_e, mRet_e, mRetN_e, mIfS_e, mBreak_e, mCont_e, mSet_e, mAsg_e, mPar2_e, mPar3_e, mVar_e, slot_0, slot_s, mC_e, mOp_e, mUn_e, mT_e, mAnd_e, mOr_e, mNot_e, mAndV_e, mOrV_e, mNotV_e, mIf_e, mTup_0, mTup_1, mTup_2, mTup_3, mLst_0, mLst_1, mLst_2, mLst_3, mLst_4, mCall_1, mCall_2, mCallF_1, mCallF_2, mCallF_3, mCallF_4, mFor_e, iR1_e, iZ_e, iE_e, iS_e, mLc_e, mLcO_e, mYes_e, gTg_e, bindT_nm, bindT_1, bindT_2, bindT_3, onEnv_s, onInt_i, onBl_b, onSeq_t, onSeq_l, onSeq_f, onZip_t, onZip_l, onEnum_t, onEnum_l, onT_t, onT_f, onSome_s, fAdd_ii, fAdd_tt, fAdd_ll, fAdd_ss, fSub_ii, fMul_ii, fMul_li, fDiv_ii, fMod_ii, fPow_ii, fNeg_i, fLe_ii, fGt_ii, fGe_ii, fLt_ii, fEq_ii, fEq_ss, fEq_bb, gLen_t, gLen_l, gLen_f, gInt_i, gInt_b, gBool_b, gList_t, gList_l, gList_f, gTuple_t, gTuple_l, gSum_t, gSum_l, fIx_t, fIx_l, fIx_f, fSl_t, fSl_l, fSl_f, fRev_t, fRev_l, wipeD_n, wipeD_c, mPN_e, mPS_e, mSl_e, mDct_e, mChain_e, gMax2_ii, fMulO_li, fMulT_e, iR2_e, fEqN_l, mLst_7, mLst_8, mLst_9, mLst_10, mLst_11, mLst_12, mLst_13, mLst_14, mLst_15, mLst_16, mLst_17, mLst_18, mLst_19, mLst_20, mDcx_e, mMeth_e, mMeth0_e, tyM_str, true_and, mLstO_0, mLstO_1, mLstO_2, mLstO_3, mLstO_4, mTup_4, mLstO_5, mLst_5, mTup_5, mLstO_6, mLst_6, mTup_6, gIsi_non_int, gIsi_non_bool, gIsi_non_tuple, gIsi_non_str, gIsi_non_list, fIs_non, gIsi_bl_int, gIsi_bl_bool, gIsi_bl_tuple, gIsi_bl_str, gIsi_bl_list, fIs_bl, gIsi_int_int, gIsi_int_bool, gIsi_int_tuple, gIsi_int_str, gIsi_int_list, fIs_int, gIsi_str_int, gIsi_str_bool, gIsi_str_tuple, gIsi_str_str, gIsi_str_list, fIs_str, gIsi_tup_int, gIsi_tup_bool, gIsi_tup_tuple, gIsi_tup_str, gIsi_tup_list, fIs_tup, gIsi_lst_int, gIsi_lst_bool, gIsi_lst_tuple, gIsi_lst_str, gIsi_lst_list, fIs_lst, gIsi_frz_int, gIsi_frz_bool, gIsi_frz_tuple, gIsi_frz_str, gIsi_frz_list, fIs_frz, gIsi_dct_int, gIsi_dct_bool, gIsi_dct_tuple, gIsi_dct_str, gIsi_dct_list, fIs_dct]
          have w2 := one (c := 2) g1 g2 g3 (by omega) (by omega)
          refine lplus_ok (by omega) (lplus_ok (by omega) ?_)
          exact q S5 (_, _) R5 t5 D5 (p4.trans p5) (by omega) ⟨w1.1, w2.1, w1.2.1, w2.2.1, w1.2.2, w2.2.2⟩
        · simp only [decide_eq_false hm1, mBody_e, startD_e, mNext_e, mSeq_e, mExpr_e, mRet_e, mRetN_e, mIfS_e, mBreak_e, mCont_e, mSet_e, mAsg_e, mPar2_e, mPar3_e, mVar_e, slot_0, slot_s, mC_e, mOp_e, mUn_e, mT_e, mAnd_e, mOr_e, mNot_e, mAndV_e, mOrV_e, mNotV_e, mIf_e, mTup_0, mTup_1, mTup_2, mTup_3, mLst_0, mLst_1, mLst_2, mLst_3, mLst_4, mCall_1, mCall_2, mCallF_1, mCallF_2, mCallF_3, mCallF_4, mFor_e, iR1_e, iZ_e, iE_e, iS_e, mLc_e, mLcO_e, mYes_e, gTg_e, bindT_nm, bindT_1, bindT_2, bindT_3, onEnv_s, onInt_i, onBl_b, onSeq_t, onSeq_l, onSeq_f, onZip_t, onZip_l, onEnum_t, onEnum_l, onT_t, onT_f, onSome_s, fAdd_ii, fAdd_tt, fAdd_ll, fAdd_ss, fSub_ii, fMul_ii, fMul_li, fDiv_ii, fMod_ii, fPow_ii, fNeg_i, fLe_ii, fGt_ii, fGe_ii, fLt_ii, fEq_ii, fEq_ss, fEq_bb, gLen_t, gLen_l, gLen_f, gInt_i, gInt_b, gBool_b, gList_t, gList_l, gList_f, gTuple_t, gTuple_l, gSum_t, gSum_l, fIx_t, fIx_l, fIx_f, fSl_t, fSl_l, fSl_f, fRev_t, fRev_l, wipeD_n, wipeD_c, mPN_e, mPS_e, mSl_e, mDct_e, mChain_e, gMax2_ii, fMulO_li, fMulT_e, iR2_e, fEqN_l, mLst_7, mLst_8, mLst_9, mLst_10, mLst_11, mLst_12, mLst_13, mLst_14, mLst_15, mLst_16, mLst_17, mLst_18, mLst_19, mLst_20, mDcx_e, mMeth_e, mMeth0_e, tyM_str, true_and, mLstO_0, mLstO_1, mLstO_2, mLstO_3, mLstO_4, mTup_4, mLstO_5, mLst_5, mTup_5, mLstO_6, mLst_6, mTup_6, gIsi_non_int, gIsi_non_bool, gIsi_non_tuple, gIsi_non_str, gIsi_non_list, fIs_non, gIsi_bl_int, gIsi_bl_bool, gIsi_bl_tuple, gIsi_bl_str, gIsi_bl_list, fIs_bl, gIsi_int_int, gIsi_int_bool, gIsi_int_tuple, gIsi_int_str, gIsi_int_list, fIs_int, gIsi_str_int, gIsi_str_bool, gIsi_str_tuple, gIsi_str_str, gIsi_str_list, fIs_str, gIsi_tup_int, gIsi_tup_bool, gIsi_tup_tuple, gIsi_tup_str, gIsi_tup_list, fIs_tup, gIsi_lst_int, gIsi_lst_bool, gIsi_lst_tuple, gIsi_lst_str, gIsi_lst_list, fIs_lst, gIsi_frz_int, gIsi_frz_bool, gIsi_frz_tuple, gIsi_frz_str, gIsi_frz_list, fIs_frz, gIsi_dct_int, gIsi_dct_bool, gIsi_dct_tuple, gIsi_dct_str, gIsi_dct_list, fIs_dct]
          refine lplus_ok (by omega) ?_
          exact q S5 (_, _) R5 t5 D5 (p4.trans p5) (by omega) ⟨w1.1, bl, w1.2.1, fun x hx => by have := bm x hx; omega, w1.2.2, by show (besI g k many).sum ≤ most; omega⟩
structure GoodM (g : Nat) (many : Nat) (most : Int) (ts : List Rl) : Prop where
  g0 : 0 < g
  len : ts.length ≤ many
  all : ∀ r ∈ ts, GoodT g most r
theorem market_ok {t g : Nat} {R S : Store} {many : Nat} {most : Int} {Q : MK DV} {E : MX} (D : Dk t R S) (hg0 : 0 < g) (hg : g ≤ 100) (hn : many ≤ 4) (hm : 0 ≤ most) (hm2 : most ≤ 4) (ht : t ≤ 5000000)
    (q : ∀ S' ts R' t', Dk t' R' S' → R <+: R' → t' ≤ t + 3000 → GoodM g many most ts → Q (mV g ts) S') : m__law_market [.ref 1, .int g, .int many, .int most] S Q E := by
  simp only [app4 m__law_market_e, app3 b__law_market_e, mBody_e, startD_e, mNext_e, mSeq_e, mExpr_e, mRet_e, mRetN_e, mIfS_e, mBreak_e, mCont_e, mSet_e, mAsg_e, mPar2_e, mPar3_e, mVar_e, slot_0, slot_s, mC_e, mOp_e, mUn_e, mT_e, mAnd_e, mOr_e, mNot_e, mAndV_e, mOrV_e, mNotV_e, mIf_e, mTup_0, mTup_1, mTup_2, mTup_3, mLst_0, mLst_1, mLst_2, mLst_3, mLst_4, mCall_1, mCall_2, mCallF_1, mCallF_2, mCallF_3, mCallF_4, mFor_e, iR1_e, iZ_e, iE_e, iS_e, mLc_e, mLcO_e, mYes_e, gTg_e, bindT_nm, bindT_1, bindT_2, bindT_3, onEnv_s, onInt_i, onBl_b, onSeq_t, onSeq_l, onSeq_f, onZip_t, onZip_l, onEnum_t, onEnum_l, onT_t, onT_f, onSome_s, fAdd_ii, fAdd_tt, fAdd_ll, fAdd_ss, fSub_ii, fMul_ii, fMul_li, fDiv_ii, fMod_ii, fPow_ii, fNeg_i, fLe_ii, fGt_ii, fGe_ii, fLt_ii, fEq_ii, fEq_ss, fEq_bb, gLen_t, gLen_l, gLen_f, gInt_i, gInt_b, gBool_b, gList_t, gList_l, gList_f, gTuple_t, gTuple_l, gSum_t, gSum_l, fIx_t, fIx_l, fIx_f, fSl_t, fSl_l, fSl_f, fRev_t, fRev_l, wipeD_n, wipeD_c, mPN_e, mPS_e, mSl_e, mDct_e, mChain_e, gMax2_ii, fMulO_li, fMulT_e, iR2_e, fEqN_l, mLst_7, mLst_8, mLst_9, mLst_10, mLst_11, mLst_12, mLst_13, mLst_14, mLst_15, mLst_16, mLst_17, mLst_18, mLst_19, mLst_20, mDcx_e, mMeth_e, mMeth0_e, tyM_str, true_and, mLstO_0, mLstO_1, mLstO_2, mLstO_3, mLstO_4, mTup_4, mLstO_5, mLst_5, mTup_5, mLstO_6, mLst_6, mTup_6, gIsi_non_int, gIsi_non_bool, gIsi_non_tuple, gIsi_non_str, gIsi_non_list, fIs_non, gIsi_bl_int, gIsi_bl_bool, gIsi_bl_tuple, gIsi_bl_str, gIsi_bl_list, fIs_bl, gIsi_int_int, gIsi_int_bool, gIsi_int_tuple, gIsi_int_str, gIsi_int_list, fIs_int, gIsi_str_int, gIsi_str_bool, gIsi_str_tuple, gIsi_str_str, gIsi_str_list, fIs_str, gIsi_tup_int, gIsi_tup_bool, gIsi_tup_tuple, gIsi_tup_str, gIsi_tup_list, fIs_tup, gIsi_lst_int, gIsi_lst_bool, gIsi_lst_tuple, gIsi_lst_str, gIsi_lst_list, fIs_lst, gIsi_frz_int, gIsi_frz_bool, gIsi_frz_tuple, gIsi_frz_str, gIsi_frz_list, fIs_frz, gIsi_dct_int, gIsi_dct_bool, gIsi_dct_tuple, gIsi_dct_str, gIsi_dct_list, fIs_dct, List.map_cons, List.map_nil, List.length_cons, List.length_nil, List.cons_append, List.nil_append, List.set_cons_zero, List.set_cons_succ, List.replicate_zero, List.replicate_succ]
  refine draw_ok D (by omega) (by omega) (by omega) fun S1 d D1 hd0 hd1 => ?_
  obtain ⟨n, rfl⟩ := Int.eq_ofNat_of_zero_le hd0
  simp only [mBody_e, startD_e, mNext_e, mSeq_e, mExpr_e, mRet_e, mRetN_e, mIfS_e, mBreak_e, mCont_e, mSet_e, mAsg_e, mPar2_e, mPar3_e, mVar_e, slot_0, slot_s, mC_e, mOp_e, mUn_e, mT_e, mAnd_e, mOr_e, mNot_e, mAndV_e, mOrV_e, mNotV_e, mIf_e, mTup_0, mTup_1, mTup_2, mTup_3, mLst_0, mLst_1, mLst_2, mLst_3, mLst_4, mCall_1, mCall_2, mCallF_1, mCallF_2, mCallF_3, mCallF_4, mFor_e, iR1_e, iZ_e, iE_e, iS_e, mLc_e, mLcO_e, mYes_e, gTg_e, bindT_nm, bindT_1, bindT_2, bindT_3, onEnv_s, onInt_i, onBl_b, onSeq_t, onSeq_l, onSeq_f, onZip_t, onZip_l, onEnum_t, onEnum_l, onT_t, onT_f, onSome_s, fAdd_ii, fAdd_tt, fAdd_ll, fAdd_ss, fSub_ii, fMul_ii, fMul_li, fDiv_ii, fMod_ii, fPow_ii, fNeg_i, fLe_ii, fGt_ii, fGe_ii, fLt_ii, fEq_ii, fEq_ss, fEq_bb, gLen_t, gLen_l, gLen_f, gInt_i, gInt_b, gBool_b, gList_t, gList_l, gList_f, gTuple_t, gTuple_l, gSum_t, gSum_l, fIx_t, fIx_l, fIx_f, fSl_t, fSl_l, fSl_f, fRev_t, fRev_l, wipeD_n, wipeD_c, mPN_e, mPS_e, mSl_e, mDct_e, mChain_e, gMax2_ii, fMulO_li, fMulT_e, iR2_e, fEqN_l, mLst_7, mLst_8, mLst_9, mLst_10, mLst_11, mLst_12, mLst_13, mLst_14, mLst_15, mLst_16, mLst_17, mLst_18, mLst_19, mLst_20, mDcx_e, mMeth_e, mMeth0_e, tyM_str, true_and, mLstO_0, mLstO_1, mLstO_2, mLstO_3, mLstO_4, mTup_4, mLstO_5, mLst_5, mTup_5, mLstO_6, mLst_6, mTup_6, gIsi_non_int, gIsi_non_bool, gIsi_non_tuple, gIsi_non_str, gIsi_non_list, fIs_non, gIsi_bl_int, gIsi_bl_bool, gIsi_bl_tuple, gIsi_bl_str, gIsi_bl_list, fIs_bl, gIsi_int_int, gIsi_int_bool, gIsi_int_tuple, gIsi_int_str, gIsi_int_list, fIs_int, gIsi_str_int, gIsi_str_bool, gIsi_str_tuple, gIsi_str_str, gIsi_str_list, fIs_str, gIsi_tup_int, gIsi_tup_bool, gIsi_tup_tuple, gIsi_tup_str, gIsi_tup_list, fIs_tup, gIsi_lst_int, gIsi_lst_bool, gIsi_lst_tuple, gIsi_lst_str, gIsi_lst_list, fIs_lst, gIsi_frz_int, gIsi_frz_bool, gIsi_frz_tuple, gIsi_frz_str, gIsi_frz_list, fIs_frz, gIsi_dct_int, gIsi_dct_bool, gIsi_dct_tuple, gIsi_dct_str, gIsi_dct_list, fIs_dct, List.map_cons, List.map_nil, List.length_cons, List.length_nil, List.cons_append, List.nil_append, List.set_cons_zero, List.set_cons_succ, List.replicate_zero, List.replicate_succ, Int.toNat_natCast]
  refine ⟨by omega, by omega, ?_⟩
  refine lcGo_ind (fun xs acc S' => ∃ ts R' t', acc = rsV ts ∧ Dk t' R' S' ∧ R <+: R' ∧ t' + 500 * xs.length ≤ t + 3000 ∧ ts.length + xs.length = n ∧ ∀ r ∈ ts, GoodT g most r) ?hn ?hs _ _ _ ⟨[], R, t + 1, rfl, D1, List.prefix_refl R, by rw [rngD_len]; omega, by rw [rngD_len]; simp, fun r hr => nomatch hr⟩
  case hn =>
    rintro acc S' ⟨ts, R', t', rfl, D', p, h1, h2, h3⟩
    have h2' : ts.length + 0 = n := h2
    have h1' : t' + 500 * 0 ≤ t + 3000 := h1
    exact q S' ts R' t' D' p (by omega) ⟨hg0, by omega, h3⟩
  case hs =>
    rintro x xs acc S' ⟨ts, R', t', rfl, D', p, h1, h2, h3⟩ ih
    rw [List.length_cons] at h1 h2
    simp only [lcGo_c, mBody_e, startD_e, mNext_e, mSeq_e, mExpr_e, mRet_e, mRetN_e, mIfS_e, mBreak_e, mCont_e, mSet_e, mAsg_e, mPar2_e, mPar3_e, mVar_e, slot_0, slot_s, mC_e, mOp_e, mUn_e, mT_e, mAnd_e, mOr_e, mNot_e, mAndV_e, mOrV_e, mNotV_e, mIf_e, mTup_0, mTup_1, mTup_2, mTup_3, mLst_0, mLst_1, mLst_2, mLst_3, mLst_4, mCall_1, mCall_2, mCallF_1, mCallF_2, mCallF_3, mCallF_4, mFor_e, iR1_e, iZ_e, iE_e, iS_e, mLc_e, mLcO_e, mYes_e, gTg_e, bindT_nm, bindT_1, bindT_2, bindT_3, onEnv_s, onInt_i, onBl_b, onSeq_t, onSeq_l, onSeq_f, onZip_t, onZip_l, onEnum_t, onEnum_l, onT_t, onT_f, onSome_s, fAdd_ii, fAdd_tt, fAdd_ll, fAdd_ss, fSub_ii, fMul_ii, fMul_li, fDiv_ii, fMod_ii, fPow_ii, fNeg_i, fLe_ii, fGt_ii, fGe_ii, fLt_ii, fEq_ii, fEq_ss, fEq_bb, gLen_t, gLen_l, gLen_f, gInt_i, gInt_b, gBool_b, gList_t, gList_l, gList_f, gTuple_t, gTuple_l, gSum_t, gSum_l, fIx_t, fIx_l, fIx_f, fSl_t, fSl_l, fSl_f, fRev_t, fRev_l, wipeD_n, wipeD_c, mPN_e, mPS_e, mSl_e, mDct_e, mChain_e, gMax2_ii, fMulO_li, fMulT_e, iR2_e, fEqN_l, mLst_7, mLst_8, mLst_9, mLst_10, mLst_11, mLst_12, mLst_13, mLst_14, mLst_15, mLst_16, mLst_17, mLst_18, mLst_19, mLst_20, mDcx_e, mMeth_e, mMeth0_e, tyM_str, true_and, mLstO_0, mLstO_1, mLstO_2, mLstO_3, mLstO_4, mTup_4, mLstO_5, mLst_5, mTup_5, mLstO_6, mLst_6, mTup_6, gIsi_non_int, gIsi_non_bool, gIsi_non_tuple, gIsi_non_str, gIsi_non_list, fIs_non, gIsi_bl_int, gIsi_bl_bool, gIsi_bl_tuple, gIsi_bl_str, gIsi_bl_list, fIs_bl, gIsi_int_int, gIsi_int_bool, gIsi_int_tuple, gIsi_int_str, gIsi_int_list, fIs_int, gIsi_str_int, gIsi_str_bool, gIsi_str_tuple, gIsi_str_str, gIsi_str_list, fIs_str, gIsi_tup_int, gIsi_tup_bool, gIsi_tup_tuple, gIsi_tup_str, gIsi_tup_list, fIs_tup, gIsi_lst_int, gIsi_lst_bool, gIsi_lst_tuple, gIsi_lst_str, gIsi_lst_list, fIs_lst, gIsi_frz_int, gIsi_frz_bool, gIsi_frz_tuple, gIsi_frz_str, gIsi_frz_list, fIs_frz, gIsi_dct_int, gIsi_dct_bool, gIsi_dct_tuple, gIsi_dct_str, gIsi_dct_list, fIs_dct, List.map_cons, List.map_nil, List.length_cons, List.length_nil, List.cons_append, List.nil_append, List.set_cons_zero, List.set_cons_succ, List.replicate_zero, List.replicate_succ]
    refine trade_ok D' hg0 hg hm hm2 (by omega) fun S2 r R2 t2 D2 p2 l2 gr => ?_
    refine ⟨by unfold rsV; rw [List.length_map]; omega, ih _ _ ⟨ts ++ [r], R2, t2, by unfold rsV; rw [List.map_append]; rfl, D2, p.trans p2, by omega, by rw [List.length_append]; simp; omega, fun z hz => ?_⟩⟩
    rcases List.mem_append.mp hz with hz | hz
    · exact h3 z hz
    · have : z = r := by simpa using hz
      rw [this]
      exact gr
theorem any_market_ok {t : Nat} {R S : Store} {Q : MK DV} {E : MX} (D : Dk t R S) (ht : t ≤ 4000000)
    (q : ∀ S' g ts R' t', Dk t' R' S' → R <+: R' → t' ≤ t + 3001 → g ≤ 4 → GoodM g (if g < 3 then 4 else 5 - g) (if g < 3 then 4 else 3) ts → Q (mV g ts) S') : m__law_any_market [.ref 1] S Q E := by
  simp only [app4 m__law_any_market_e, app3 b__law_any_market_e, mBody_e, startD_e, mNext_e, mSeq_e, mExpr_e, mRet_e, mRetN_e, mIfS_e, mBreak_e, mCont_e, mSet_e, mAsg_e, mPar2_e, mPar3_e, mVar_e, slot_0, slot_s, mC_e, mOp_e, mUn_e, mT_e, mAnd_e, mOr_e, mNot_e, mAndV_e, mOrV_e, mNotV_e, mIf_e, mTup_0, mTup_1, mTup_2, mTup_3, mLst_0, mLst_1, mLst_2, mLst_3, mLst_4, mCall_1, mCall_2, mCallF_1, mCallF_2, mCallF_3, mCallF_4, mFor_e, iR1_e, iZ_e, iE_e, iS_e, mLc_e, mLcO_e, mYes_e, gTg_e, bindT_nm, bindT_1, bindT_2, bindT_3, onEnv_s, onInt_i, onBl_b, onSeq_t, onSeq_l, onSeq_f, onZip_t, onZip_l, onEnum_t, onEnum_l, onT_t, onT_f, onSome_s, fAdd_ii, fAdd_tt, fAdd_ll, fAdd_ss, fSub_ii, fMul_ii, fMul_li, fDiv_ii, fMod_ii, fPow_ii, fNeg_i, fLe_ii, fGt_ii, fGe_ii, fLt_ii, fEq_ii, fEq_ss, fEq_bb, gLen_t, gLen_l, gLen_f, gInt_i, gInt_b, gBool_b, gList_t, gList_l, gList_f, gTuple_t, gTuple_l, gSum_t, gSum_l, fIx_t, fIx_l, fIx_f, fSl_t, fSl_l, fSl_f, fRev_t, fRev_l, wipeD_n, wipeD_c, mPN_e, mPS_e, mSl_e, mDct_e, mChain_e, gMax2_ii, fMulO_li, fMulT_e, iR2_e, fEqN_l, mLst_7, mLst_8, mLst_9, mLst_10, mLst_11, mLst_12, mLst_13, mLst_14, mLst_15, mLst_16, mLst_17, mLst_18, mLst_19, mLst_20, mDcx_e, mMeth_e, mMeth0_e, tyM_str, true_and, mLstO_0, mLstO_1, mLstO_2, mLstO_3, mLstO_4, mTup_4, mLstO_5, mLst_5, mTup_5, mLstO_6, mLst_6, mTup_6, gIsi_non_int, gIsi_non_bool, gIsi_non_tuple, gIsi_non_str, gIsi_non_list, fIs_non, gIsi_bl_int, gIsi_bl_bool, gIsi_bl_tuple, gIsi_bl_str, gIsi_bl_list, fIs_bl, gIsi_int_int, gIsi_int_bool, gIsi_int_tuple, gIsi_int_str, gIsi_int_list, fIs_int, gIsi_str_int, gIsi_str_bool, gIsi_str_tuple, gIsi_str_str, gIsi_str_list, fIs_str, gIsi_tup_int, gIsi_tup_bool, gIsi_tup_tuple, gIsi_tup_str, gIsi_tup_list, fIs_tup, gIsi_lst_int, gIsi_lst_bool, gIsi_lst_tuple, gIsi_lst_str, gIsi_lst_list, fIs_lst, gIsi_frz_int, gIsi_frz_bool, gIsi_frz_tuple, gIsi_frz_str, gIsi_frz_list, fIs_frz, gIsi_dct_int, gIsi_dct_bool, gIsi_dct_tuple, gIsi_dct_str, gIsi_dct_list, fIs_dct, List.map_cons, List.map_nil, List.length_cons, List.length_nil, List.cons_append, List.nil_append, List.set_cons_zero, List.set_cons_succ, List.replicate_zero, List.replicate_succ]
  refine draw_ok D (by omega) (by omega) (by omega) fun S1 d D1 hd0 hd1 => ?_
  obtain ⟨k, rfl⟩ := Int.eq_ofNat_of_zero_le hd0
  have eg : (1 : Int) + (k : Int) = ((1 + k : Nat) : Int) := by omega
  simp only [mBody_e, startD_e, mNext_e, mSeq_e, mExpr_e, mRet_e, mRetN_e, mIfS_e, mBreak_e, mCont_e, mSet_e, mAsg_e, mPar2_e, mPar3_e, mVar_e, slot_0, slot_s, mC_e, mOp_e, mUn_e, mT_e, mAnd_e, mOr_e, mNot_e, mAndV_e, mOrV_e, mNotV_e, mIf_e, mTup_0, mTup_1, mTup_2, mTup_3, mLst_0, mLst_1, mLst_2, mLst_3, mLst_4, mCall_1, mCall_2, mCallF_1, mCallF_2, mCallF_3, mCallF_4, mFor_e, iR1_e, iZ_e, iE_e, iS_e, mLc_e, mLcO_e, mYes_e, gTg_e, bindT_nm, bindT_1, bindT_2, bindT_3, onEnv_s, onInt_i, onBl_b, onSeq_t, onSeq_l, onSeq_f, onZip_t, onZip_l, onEnum_t, onEnum_l, onT_t, onT_f, onSome_s, fAdd_ii, fAdd_tt, fAdd_ll, fAdd_ss, fSub_ii, fMul_ii, fMul_li, fDiv_ii, fMod_ii, fPow_ii, fNeg_i, fLe_ii, fGt_ii, fGe_ii, fLt_ii, fEq_ii, fEq_ss, fEq_bb, gLen_t, gLen_l, gLen_f, gInt_i, gInt_b, gBool_b, gList_t, gList_l, gList_f, gTuple_t, gTuple_l, gSum_t, gSum_l, fIx_t, fIx_l, fIx_f, fSl_t, fSl_l, fSl_f, fRev_t, fRev_l, wipeD_n, wipeD_c, mPN_e, mPS_e, mSl_e, mDct_e, mChain_e, gMax2_ii, fMulO_li, fMulT_e, iR2_e, fEqN_l, mLst_7, mLst_8, mLst_9, mLst_10, mLst_11, mLst_12, mLst_13, mLst_14, mLst_15, mLst_16, mLst_17, mLst_18, mLst_19, mLst_20, mDcx_e, mMeth_e, mMeth0_e, tyM_str, true_and, mLstO_0, mLstO_1, mLstO_2, mLstO_3, mLstO_4, mTup_4, mLstO_5, mLst_5, mTup_5, mLstO_6, mLst_6, mTup_6, gIsi_non_int, gIsi_non_bool, gIsi_non_tuple, gIsi_non_str, gIsi_non_list, fIs_non, gIsi_bl_int, gIsi_bl_bool, gIsi_bl_tuple, gIsi_bl_str, gIsi_bl_list, fIs_bl, gIsi_int_int, gIsi_int_bool, gIsi_int_tuple, gIsi_int_str, gIsi_int_list, fIs_int, gIsi_str_int, gIsi_str_bool, gIsi_str_tuple, gIsi_str_str, gIsi_str_list, fIs_str, gIsi_tup_int, gIsi_tup_bool, gIsi_tup_tuple, gIsi_tup_str, gIsi_tup_list, fIs_tup, gIsi_lst_int, gIsi_lst_bool, gIsi_lst_tuple, gIsi_lst_str, gIsi_lst_list, fIs_lst, gIsi_frz_int, gIsi_frz_bool, gIsi_frz_tuple, gIsi_frz_str, gIsi_frz_list, fIs_frz, gIsi_dct_int, gIsi_dct_bool, gIsi_dct_tuple, gIsi_dct_str, gIsi_dct_list, fIs_dct, List.map_cons, List.map_nil, List.length_cons, List.length_nil, List.cons_append, List.nil_append, List.set_cons_zero, List.set_cons_succ, List.replicate_zero, List.replicate_succ]
  rw [eg]
  have hg : 0 < 1 + k ∧ 1 + k ≤ 4 := by omega
  obtain ⟨g, hgk⟩ : ∃ g, g = 1 + k := ⟨_, rfl⟩
  rw [← hgk] at hg ⊢
  simp only [app3 r__law_any_market_1_e, mBody_e, startD_e, mNext_e, mSeq_e, mExpr_e, mRet_e, mRetN_e, mIfS_e, mBreak_e, mCont_e, mSet_e, mAsg_e, mPar2_e, mPar3_e, mVar_e, slot_0, slot_s, mC_e, mOp_e, mUn_e, mT_e, mAnd_e, mOr_e, mNot_e, mAndV_e, mOrV_e, mNotV_e, mIf_e, mTup_0, mTup_1, mTup_2, mTup_3, mLst_0, mLst_1, mLst_2, mLst_3, mLst_4, mCall_1, mCall_2, mCallF_1, mCallF_2, mCallF_3, mCallF_4, mFor_e, iR1_e, iZ_e, iE_e, iS_e, mLc_e, mLcO_e, mYes_e, gTg_e, bindT_nm, bindT_1, bindT_2, bindT_3, onEnv_s, onInt_i, onBl_b, onSeq_t, onSeq_l, onSeq_f, onZip_t, onZip_l, onEnum_t, onEnum_l, onT_t, onT_f, onSome_s, fAdd_ii, fAdd_tt, fAdd_ll, fAdd_ss, fSub_ii, fMul_ii, fMul_li, fDiv_ii, fMod_ii, fPow_ii, fNeg_i, fLe_ii, fGt_ii, fGe_ii, fLt_ii, fEq_ii, fEq_ss, fEq_bb, gLen_t, gLen_l, gLen_f, gInt_i, gInt_b, gBool_b, gList_t, gList_l, gList_f, gTuple_t, gTuple_l, gSum_t, gSum_l, fIx_t, fIx_l, fIx_f, fSl_t, fSl_l, fSl_f, fRev_t, fRev_l, wipeD_n, wipeD_c, mPN_e, mPS_e, mSl_e, mDct_e, mChain_e, gMax2_ii, fMulO_li, fMulT_e, iR2_e, fEqN_l, mLst_7, mLst_8, mLst_9, mLst_10, mLst_11, mLst_12, mLst_13, mLst_14, mLst_15, mLst_16, mLst_17, mLst_18, mLst_19, mLst_20, mDcx_e, mMeth_e, mMeth0_e, tyM_str, true_and, mLstO_0, mLstO_1, mLstO_2, mLstO_3, mLstO_4, mTup_4, mLstO_5, mLst_5, mTup_5, mLstO_6, mLst_6, mTup_6, gIsi_non_int, gIsi_non_bool, gIsi_non_tuple, gIsi_non_str, gIsi_non_list, fIs_non, gIsi_bl_int, gIsi_bl_bool, gIsi_bl_tuple, gIsi_bl_str, gIsi_bl_list, fIs_bl, gIsi_int_int, gIsi_int_bool, gIsi_int_tuple, gIsi_int_str, gIsi_int_list, fIs_int, gIsi_str_int, gIsi_str_bool, gIsi_str_tuple, gIsi_str_str, gIsi_str_list, fIs_str, gIsi_tup_int, gIsi_tup_bool, gIsi_tup_tuple, gIsi_tup_str, gIsi_tup_list, fIs_tup, gIsi_lst_int, gIsi_lst_bool, gIsi_lst_tuple, gIsi_lst_str, gIsi_lst_list, fIs_lst, gIsi_frz_int, gIsi_frz_bool, gIsi_frz_tuple, gIsi_frz_str, gIsi_frz_list, fIs_frz, gIsi_dct_int, gIsi_dct_bool, gIsi_dct_tuple, gIsi_dct_str, gIsi_dct_list, fIs_dct, List.map_cons, List.map_nil, List.length_cons, List.length_nil, List.cons_append, List.nil_append, List.set_cons_zero, List.set_cons_succ, List.replicate_zero, List.replicate_succ]
  by_cases h3 : g < 3
  · have h3' : ((g : Nat) : Int) < 3 := by omega
    simp only [decide_eq_true h3', mBody_e, startD_e, mNext_e, mSeq_e, mExpr_e, mRet_e, mRetN_e, mIfS_e, mBreak_e, mCont_e, mSet_e, mAsg_e, mPar2_e, mPar3_e, mVar_e, slot_0, slot_s, mC_e, mOp_e, mUn_e, mT_e, mAnd_e, mOr_e, mNot_e, mAndV_e, mOrV_e, mNotV_e, mIf_e, mTup_0, mTup_1, mTup_2, mTup_3, mLst_0, mLst_1, mLst_2, mLst_3, mLst_4, mCall_1, mCall_2, mCallF_1, mCallF_2, mCallF_3, mCallF_4, mFor_e, iR1_e, iZ_e, iE_e, iS_e, mLc_e, mLcO_e, mYes_e, gTg_e, bindT_nm, bindT_1, bindT_2, bindT_3, onEnv_s, onInt_i, onBl_b, onSeq_t, onSeq_l, onSeq_f, onZip_t, onZip_l, onEnum_t, onEnum_l, onT_t, onT_f, onSome_s, fAdd_ii, fAdd_tt, fAdd_ll, fAdd_ss, fSub_ii, fMul_ii, fMul_li, fDiv_ii, fMod_ii, fPow_ii, fNeg_i, fLe_ii, fGt_ii, fGe_ii, fLt_ii, fEq_ii, fEq_ss, fEq_bb, gLen_t, gLen_l, gLen_f, gInt_i, gInt_b, gBool_b, gList_t, gList_l, gList_f, gTuple_t, gTuple_l, gSum_t, gSum_l, fIx_t, fIx_l, fIx_f, fSl_t, fSl_l, fSl_f, fRev_t, fRev_l, wipeD_n, wipeD_c, mPN_e, mPS_e, mSl_e, mDct_e, mChain_e, gMax2_ii, fMulO_li, fMulT_e, iR2_e, fEqN_l, mLst_7, mLst_8, mLst_9, mLst_10, mLst_11, mLst_12, mLst_13, mLst_14, mLst_15, mLst_16, mLst_17, mLst_18, mLst_19, mLst_20, mDcx_e, mMeth_e, mMeth0_e, tyM_str, true_and, mLstO_0, mLstO_1, mLstO_2, mLstO_3, mLstO_4, mTup_4, mLstO_5, mLst_5, mTup_5, mLstO_6, mLst_6, mTup_6, gIsi_non_int, gIsi_non_bool, gIsi_non_tuple, gIsi_non_str, gIsi_non_list, fIs_non, gIsi_bl_int, gIsi_bl_bool, gIsi_bl_tuple, gIsi_bl_str, gIsi_bl_list, fIs_bl, gIsi_int_int, gIsi_int_bool, gIsi_int_tuple, gIsi_int_str, gIsi_int_list, fIs_int, gIsi_str_int, gIsi_str_bool, gIsi_str_tuple, gIsi_str_str, gIsi_str_list, fIs_str, gIsi_tup_int, gIsi_tup_bool, gIsi_tup_tuple, gIsi_tup_str, gIsi_tup_list, fIs_tup, gIsi_lst_int, gIsi_lst_bool, gIsi_lst_tuple, gIsi_lst_str, gIsi_lst_list, fIs_lst, gIsi_frz_int, gIsi_frz_bool, gIsi_frz_tuple, gIsi_frz_str, gIsi_frz_list, fIs_frz, gIsi_dct_int, gIsi_dct_bool, gIsi_dct_tuple, gIsi_dct_str, gIsi_dct_list, fIs_dct]
    exact market_ok (many := 4) D1 hg.1 (by omega) (by omega) (by omega) (by omega) (by omega) fun S2 ts R2 t2 D2 p2 l2 gm => q S2 g ts R2 t2 D2 p2 (by omega) hg.2 (by rw [if_pos h3, if_pos h3]; exact gm)
  · have h3' : ¬ ((g : Nat) : Int) < 3 := by omega
    simp only [decide_eq_false h3', mBody_e, startD_e, mNext_e, mSeq_e, mExpr_e, mRet_e, mRetN_e, mIfS_e, mBreak_e, mCont_e, mSet_e, mAsg_e, mPar2_e, mPar3_e, mVar_e, slot_0, slot_s, mC_e, mOp_e, mUn_e, mT_e, mAnd_e, mOr_e, mNot_e, mAndV_e, mOrV_e, mNotV_e, mIf_e, mTup_0, mTup_1, mTup_2, mTup_3, mLst_0, mLst_1, mLst_2, mLst_3, mLst_4, mCall_1, mCall_2, mCallF_1, mCallF_2, mCallF_3, mCallF_4, mFor_e, iR1_e, iZ_e, iE_e, iS_e, mLc_e, mLcO_e, mYes_e, gTg_e, bindT_nm, bindT_1, bindT_2, bindT_3, onEnv_s, onInt_i, onBl_b, onSeq_t, onSeq_l, onSeq_f, onZip_t, onZip_l, onEnum_t, onEnum_l, onT_t, onT_f, onSome_s, fAdd_ii, fAdd_tt, fAdd_ll, fAdd_ss, fSub_ii, fMul_ii, fMul_li, fDiv_ii, fMod_ii, fPow_ii, fNeg_i, fLe_ii, fGt_ii, fGe_ii, fLt_ii, fEq_ii, fEq_ss, fEq_bb, gLen_t, gLen_l, gLen_f, gInt_i, gInt_b, gBool_b, gList_t, gList_l, gList_f, gTuple_t, gTuple_l, gSum_t, gSum_l, fIx_t, fIx_l, fIx_f, fSl_t, fSl_l, fSl_f, fRev_t, fRev_l, wipeD_n, wipeD_c, mPN_e, mPS_e, mSl_e, mDct_e, mChain_e, gMax2_ii, fMulO_li, fMulT_e, iR2_e, fEqN_l, mLst_7, mLst_8, mLst_9, mLst_10, mLst_11, mLst_12, mLst_13, mLst_14, mLst_15, mLst_16, mLst_17, mLst_18, mLst_19, mLst_20, mDcx_e, mMeth_e, mMeth0_e, tyM_str, true_and, mLstO_0, mLstO_1, mLstO_2, mLstO_3, mLstO_4, mTup_4, mLstO_5, mLst_5, mTup_5, mLstO_6, mLst_6, mTup_6, gIsi_non_int, gIsi_non_bool, gIsi_non_tuple, gIsi_non_str, gIsi_non_list, fIs_non, gIsi_bl_int, gIsi_bl_bool, gIsi_bl_tuple, gIsi_bl_str, gIsi_bl_list, fIs_bl, gIsi_int_int, gIsi_int_bool, gIsi_int_tuple, gIsi_int_str, gIsi_int_list, fIs_int, gIsi_str_int, gIsi_str_bool, gIsi_str_tuple, gIsi_str_str, gIsi_str_list, fIs_str, gIsi_tup_int, gIsi_tup_bool, gIsi_tup_tuple, gIsi_tup_str, gIsi_tup_list, fIs_tup, gIsi_lst_int, gIsi_lst_bool, gIsi_lst_tuple, gIsi_lst_str, gIsi_lst_list, fIs_lst, gIsi_frz_int, gIsi_frz_bool, gIsi_frz_tuple, gIsi_frz_str, gIsi_frz_list, fIs_frz, gIsi_dct_int, gIsi_dct_bool, gIsi_dct_tuple, gIsi_dct_str, gIsi_dct_list, fIs_dct]
    rw [show (5 : Int) - (g : Int) = ((5 - g : Nat) : Int) by omega]
    exact market_ok (many := 5 - g) D1 hg.1 (by omega) (by omega) (by omega) (by omega) (by omega) fun S2 ts R2 t2 D2 p2 l2 gm => q S2 g ts R2 t2 D2 p2 (by omega) hg.2 (by rw [if_neg h3, if_neg h3]; exact gm)
end LB
namespace LB
open PySem PySem.Spec PyProof.Rows L2 DL PySem.W
/-! ### markets as data, their texts -/
def rP (r : Rl) : PyData := .tuple [.tuple (pI r.1), .tuple (pI r.2)]
def mP (g : Nat) (ts : List Rl) : PyData := .tuple [.int g, .tuple (ts.map rP)]
theorem toP_rV (r : Rl) : toP (rV r) = some (rP r) := toP_tup (toPs_cons (toP_it _) (toPs_cons (toP_it _) rfl))
theorem toPs_rsV : ∀ ts : List Rl, toPs (rsV ts) = some (ts.map rP)
  | [] => rfl
  | r :: ts => toPs_cons (toP_rV r) (toPs_rsV ts)
theorem toP_mV (g : Nat) (ts : List Rl) : toP (mV g ts) = some (mP g ts) := toP_tup (toPs_cons rfl (toPs_cons (toP_tup (toPs_rsV ts)) rfl))
theorem depth_rP (r : Rl) : (rP r).depth ≤ 2 := by
  simp [rP, PyData.depth, PyData.depthAll, DL.depthAll_ints]
theorem depthAll_rs : ∀ ts : List Rl, PyData.depthAll (ts.map rP) ≤ 2
  | [] => by simp [PyData.depthAll]
  | r :: ts => by
    have h1 := depth_rP r
    have h2 := depthAll_rs ts
    simp only [List.map_cons, PyData.depthAll]
    omega
theorem depth_mP (g : Nat) (ts : List Rl) : (mP g ts).depth ≤ 10 := by
  have := depthAll_rs ts
  simp only [mP, PyData.depth, PyData.depthAll]
  omega
/-- small lengths, small amounts -/
def Sml (a : List Int) : Prop := a.length ≤ 100 ∧ ∀ x ∈ a, x.natAbs < 10 ^ 24
theorem bnd_rs : ∀ {ts : List Rl}, (∀ r ∈ ts, Sml r.1 ∧ Sml r.2) → bndAll (ts.map rP) = true ∧ szAll (ts.map rP) ≤ 10000 * ts.length
  | [], _ => ⟨by simp [bndAll], by simp [szAll]⟩
  | r :: ts, h => by
    obtain ⟨h1, h2⟩ := bnd_rs (ts := ts) fun x hx => h x (List.mem_cons_of_mem _ hx)
    obtain ⟨⟨l1, a1⟩, ⟨l2, a2⟩⟩ := h r List.mem_cons_self
    refine ⟨?_, ?_⟩
    · rw [List.map_cons, bndAll, h1]
      simp [rP, bndP, bndAll, bndAll_ints a1, bndAll_ints a2]
    · rw [List.map_cons, szAll]
      simp only [rP, szP, szAll, szAll_ints, List.length_cons]
      omega
theorem repr_mP {g : Nat} {ts : List Rl} (hg : g < 1000) (hl : ts.length ≤ 100) (h : ∀ r ∈ ts, Sml r.1 ∧ Sml r.2) : reprOk (mP g ts) := by
  obtain ⟨h1, h2⟩ := bnd_rs h
  refine reprOk_of ?_ (Nat.le_trans (depth_mP g ts) (by decide)) ?_
  · simp only [mP, bndP, bndAll, h1, Bool.and_true]
    refine decide_eq_true ?_
    have : (g : Int).natAbs = g := by omega
    rw [this]
    exact Nat.lt_trans hg (by decide)
  · simp only [mP, szP, szAll]
    omega
theorem GoodT.sml {g : Nat} {most : Int} {r : Rl} (h : GoodT g most r) (hg : g ≤ 100) : Sml r.1 ∧ Sml r.2 :=
  ⟨⟨by rw [h.l1]; exact hg, fun x hx => by have := h.a1 x hx; omega⟩, ⟨by rw [h.l2]; exact hg, fun x hx => by have := h.a2 x hx; omega⟩⟩
end LB
namespace LB
open PySem PySem.Spec PyProof.Rows L2 DL PySem.W TL
/-! ### mutable lists, step by step -/
theorem append_ok {p : Nat} {d : DV} {ds : List DV} {S : Store} {Q : MK DV} (h : S[p]? = some (some (.lst ds))) (hl : ds.length < 16777216) (q : Q .non (S.set p (some (.lst (ds ++ [d]))))) : gAppend (.ref p) [d] S Q :=
  ⟨p, ds, d, by show (match S[p]? with
      | some (some (DO.lst ds)) => some (p, ds)
      | _ => none) = _
                rw [h], rfl, hl, q⟩
theorem tyM_ref {p : Nat} {ds : List DV} {S : Store} (h : S[p]? = some (some (.lst ds))) : tyM "list" (.ref p) S :=
  ⟨rfl, by
    show (match S[p]? with
      | some (some (DO.lst ds)) => some ds
      | _ => none).isSome = true
    rw [h]
    rfl⟩
theorem seqD_ref {p : Nat} {ds : List DV} {S : Store} (h : S[p]? = some (some (.lst ds))) : seqD S (.ref p) = some ds := by
  show (match S[p]? with
      | some (some (DO.lst ds)) => some ds
      | _ => none) = some ds
  rw [h]
/-! ### texts of numbers -/
def sI (i : Int) : Str := Str.ofString (toString i)
def In9 (a : List Int) : Prop := ∀ x ∈ a, 0 ≤ x ∧ x ≤ 9
theorem sI_tl {i : Int} (h0 : 0 ≤ i) (h1 : i ≤ 9) : tl (sI i) = [48 + i.toNat] := by
  obtain ⟨n, rfl⟩ := Int.eq_ofNat_of_zero_le h0
  unfold sI
  rw [tl_num, numL_lt (by omega), Int.toNat_natCast]
theorem log9 {i : Int} (h0 : 0 ≤ i) (h1 : i ≤ 9) : i.natAbs.log2 < 1920 := by
  have : i = 0 ∨ i = 1 ∨ i = 2 ∨ i = 3 ∨ i = 4 ∨ i = 5 ∨ i = 6 ∨ i = 7 ∨ i = 8 ∨ i = 9 := by omega
  rcases this with rfl | rfl | rfl | rfl | rfl | rfl | rfl | rfl | rfl | rfl <;> decide +kernel
theorem gStr_ok {i : Int} {S : Store} {Q : MK DV} (h0 : 0 ≤ i) (h1 : i ≤ 9) (q : Q (.str (sI i)) S) : gStr [.int i] S Q := ⟨log9 h0 h1, q⟩
theorem sI_len {i : Int} (h0 : 0 ≤ i) (h1 : i ≤ 9) : (sI i).length = 1 := by
  have e := sI_tl h0 h1
  show (sI i).cps.size = 1
  rw [← Array.length_toList]
  exact congrArg List.length e
theorem joinL_len (S : List Nat) : ∀ P : List (List Nat), (∀ p ∈ P, p.length = 1) → S.length = 1 → (joinL S P).length ≤ 2 * P.length
  | [], _, _ => by simp [joinL]
  | [p], h, _ => by
    have := h p (by simp)
    simp [joinL, this]
  | p :: q :: r, h, hs => by
    have ih := joinL_len S (q :: r) (fun x hx => h x (List.mem_cons_of_mem _ hx)) hs
    have h1 := h p (by simp)
    simp only [joinL, List.length_append, h1, hs, List.length_cons] at ih ⊢
    omega
def sA (a : List Int) : List Str := a.map sI
theorem strsV_sA (a : List Int) : a.map (fun i => DV.str (sI i)) = strsV (sA a) := by
  unfold strsV sA
  rw [List.map_map]
  rfl
def bagT (a : List Int) : Str := Txt.join " " (sA a)
theorem strs_lc {S : Store} {te : ME} {δ : DEnv} {i : Nat} {a : List Int} {Q : MK (List DV)} (hl : a.length ≤ 1000) (h9 : In9 a) (hte : ∀ (x : Int) (Q : MK DV), 0 ≤ x → x ≤ 9 → Q (.str (sI x)) S → te (δ.set i (some (.int x))) S Q noE)
    (q : Q (strsV (sA a)) S) : lcGo (.nm i) mYes te δ (intsV a) [] S Q := by
  refine lc_m (fun x : Int => DV.int x) (fun x => DV.str (sI x)) a (by omega) (fun x hx => ⟨_, bindT_nm, fun Qc h => hte x Qc (h9 x hx).1 (h9 x hx).2 h⟩) ?_
  rw [strsV_sA]
  exact q
theorem sum_len1 : ∀ {P : List Str}, (∀ p ∈ P, p.length = 1) → (P.map (·.length)).sum = P.length
  | [], _ => rfl
  | p :: P, h => by
    rw [List.map_cons, List.sum_cons, sum_len1 fun x hx => h x (List.mem_cons_of_mem _ hx), h p List.mem_cons_self, List.length_cons]
    omega
theorem sA_len1 {a : List Int} (h : In9 a) : ∀ p ∈ sA a, p.length = 1 := fun p hp => by
  obtain ⟨x, hx, rfl⟩ := List.mem_map.mp hp
  exact sI_len (h x hx).1 (h x hx).2
theorem sp_len : (Str.ofString " ").length = 1 := by decide +kernel
theorem bag_text_ok {a : List Int} {S : Store} {Q : MK DV} {E : MX} (hl : a.length ≤ 1000) (h9 : In9 a) (q : Q (.str (bagT a)) S) : m_bag_text [.tup (intsV a)] S Q E := by
  simp only [app4 m_bag_text_e, app3 b_bag_text_e, mBody_e, startD_e, mNext_e, mSeq_e, mExpr_e, mRet_e, mRetN_e, mIfS_e, mBreak_e, mCont_e, mSet_e, mAsg_e, mPar2_e, mPar3_e, mVar_e, slot_0, slot_s, mC_e, mOp_e, mUn_e, mT_e, mAnd_e, mOr_e, mNot_e, mAndV_e, mOrV_e, mNotV_e, mIf_e, mTup_0, mTup_1, mTup_2, mTup_3, mLst_0, mLst_1, mLst_2, mLst_3, mLst_4, mCall_1, mCall_2, mCallF_1, mCallF_2, mCallF_3, mCallF_4, mFor_e, iR1_e, iZ_e, iE_e, iS_e, mLc_e, mLcO_e, mYes_e, gTg_e, bindT_nm, bindT_1, bindT_2, bindT_3, onEnv_s, onInt_i, onBl_b, onSeq_t, onSeq_l, onSeq_f, onZip_t, onZip_l, onEnum_t, onEnum_l, onT_t, onT_f, onSome_s, fAdd_ii, fAdd_tt, fAdd_ll, fAdd_ss, fSub_ii, fMul_ii, fMul_li, fDiv_ii, fMod_ii, fPow_ii, fNeg_i, fLe_ii, fGt_ii, fGe_ii, fLt_ii, fEq_ii, fEq_ss, fEq_bb, gLen_t, gLen_l, gLen_f, gInt_i, gInt_b, gBool_b, gList_t, gList_l, gList_f, gTuple_t, gTuple_l, gSum_t, gSum_l, fIx_t, fIx_l, fIx_f, fSl_t, fSl_l, fSl_f, fRev_t, fRev_l, wipeD_n, wipeD_c, mPN_e, mPS_e, mSl_e, mDct_e, mChain_e, gMax2_ii, fMulO_li, fMulT_e, iR2_e, fEqN_l, mLst_7, mLst_8, mLst_9, mLst_10, mLst_11, mLst_12, mLst_13, mLst_14, mLst_15, mLst_16, mLst_17, mLst_18, mLst_19, mLst_20, mDcx_e, mMeth_e, mMeth0_e, tyM_str, true_and, mLstO_0, mLstO_1, mLstO_2, mLstO_3, mLstO_4, mTup_4, mLstO_5, mLst_5, mTup_5, mLstO_6, mLst_6, mTup_6, gIsi_non_int, gIsi_non_bool, gIsi_non_tuple, gIsi_non_str, gIsi_non_list, fIs_non, gIsi_bl_int, gIsi_bl_bool, gIsi_bl_tuple, gIsi_bl_str, gIsi_bl_list, fIs_bl, gIsi_int_int, gIsi_int_bool, gIsi_int_tuple, gIsi_int_str, gIsi_int_list, fIs_int, gIsi_str_int, gIsi_str_bool, gIsi_str_tuple, gIsi_str_str, gIsi_str_list, fIs_str, gIsi_tup_int, gIsi_tup_bool, gIsi_tup_tuple, gIsi_tup_str, gIsi_tup_list, fIs_tup, gIsi_lst_int, gIsi_lst_bool, gIsi_lst_tuple, gIsi_lst_str, gIsi_lst_list, fIs_lst, gIsi_frz_int, gIsi_frz_bool, gIsi_frz_tuple, gIsi_frz_str, gIsi_frz_list, fIs_frz, gIsi_dct_int, gIsi_dct_bool, gIsi_dct_tuple, gIsi_dct_str, gIsi_dct_list, fIs_dct, List.map_cons, List.map_nil, List.length_cons, List.length_nil, List.cons_append, List.nil_append, List.set_cons_zero, List.set_cons_succ, List.replicate_zero, List.replicate_succ, mMeth_e, tyM_str, true_and]
  refine strs_lc hl h9 (fun x Qc h0 h1 h => ?_) ?_
  · simp only [mBody_e, startD_e, mNext_e, mSeq_e, mExpr_e, mRet_e, mRetN_e, mIfS_e, mBreak_e, mCont_e, mSet_e, mAsg_e, mPar2_e, mPar3_e, mVar_e, slot_0, slot_s, mC_e, mOp_e, mUn_e, mT_e, mAnd_e, mOr_e, mNot_e, mAndV_e, mOrV_e, mNotV_e, mIf_e, mTup_0, mTup_1, mTup_2, mTup_3, mLst_0, mLst_1, mLst_2, mLst_3, mLst_4, mCall_1, mCall_2, mCallF_1, mCallF_2, mCallF_3, mCallF_4, mFor_e, iR1_e, iZ_e, iE_e, iS_e, mLc_e, mLcO_e, mYes_e, gTg_e, bindT_nm, bindT_1, bindT_2, bindT_3, onEnv_s, onInt_i, onBl_b, onSeq_t, onSeq_l, onSeq_f, onZip_t, onZip_l, onEnum_t, onEnum_l, onT_t, onT_f, onSome_s, fAdd_ii, fAdd_tt, fAdd_ll, fAdd_ss, fSub_ii, fMul_ii, fMul_li, fDiv_ii, fMod_ii, fPow_ii, fNeg_i, fLe_ii, fGt_ii, fGe_ii, fLt_ii, fEq_ii, fEq_ss, fEq_bb, gLen_t, gLen_l, gLen_f, gInt_i, gInt_b, gBool_b, gList_t, gList_l, gList_f, gTuple_t, gTuple_l, gSum_t, gSum_l, fIx_t, fIx_l, fIx_f, fSl_t, fSl_l, fSl_f, fRev_t, fRev_l, wipeD_n, wipeD_c, mPN_e, mPS_e, mSl_e, mDct_e, mChain_e, gMax2_ii, fMulO_li, fMulT_e, iR2_e, fEqN_l, mLst_7, mLst_8, mLst_9, mLst_10, mLst_11, mLst_12, mLst_13, mLst_14, mLst_15, mLst_16, mLst_17, mLst_18, mLst_19, mLst_20, mDcx_e, mMeth_e, mMeth0_e, tyM_str, true_and, mLstO_0, mLstO_1, mLstO_2, mLstO_3, mLstO_4, mTup_4, mLstO_5, mLst_5, mTup_5, mLstO_6, mLst_6, mTup_6, gIsi_non_int, gIsi_non_bool, gIsi_non_tuple, gIsi_non_str, gIsi_non_list, fIs_non, gIsi_bl_int, gIsi_bl_bool, gIsi_bl_tuple, gIsi_bl_str, gIsi_bl_list, fIs_bl, gIsi_int_int, gIsi_int_bool, gIsi_int_tuple, gIsi_int_str, gIsi_int_list, fIs_int, gIsi_str_int, gIsi_str_bool, gIsi_str_tuple, gIsi_str_str, gIsi_str_list, fIs_str, gIsi_tup_int, gIsi_tup_bool, gIsi_tup_tuple, gIsi_tup_str, gIsi_tup_list, fIs_tup, gIsi_lst_int, gIsi_lst_bool, gIsi_lst_tuple, gIsi_lst_str, gIsi_lst_list, fIs_lst, gIsi_frz_int, gIsi_frz_bool, gIsi_frz_tuple, gIsi_frz_str, gIsi_frz_list, fIs_frz, gIsi_dct_int, gIsi_dct_bool, gIsi_dct_tuple, gIsi_dct_str, gIsi_dct_list, fIs_dct, List.map_cons, List.map_nil, List.length_cons, List.length_nil, List.cons_append, List.nil_append, List.set_cons_zero, List.set_cons_succ, List.replicate_zero, List.replicate_succ]
    exact gStr_ok h0 h1 h
  · refine ⟨_, _, sA a, rfl, rfl, rfl, ?_, q⟩
    rw [sum_len1 (sA_len1 h9), sp_len]
    simp [sA]
    omega
def lineT (r : Rl) : Str := bagT r.1 ++ Str.ofString " = " ++ bagT r.2
def headT (g : Nat) : Str := Str.ofString "goods " ++ sI g
def mText (g : Nat) (ts : List Rl) : Str := Txt.join (Str.ofString "\n") (headT g :: ts.map lineT)
theorem bagT_len {a : List Int} (h : In9 a) : (bagT a).length ≤ 2 * a.length := by
  have e : (bagT a).length = (tl (bagT a)).length := by
    show (bagT a).cps.size = _
    rw [← Array.length_toList]
  rw [e]
  unfold bagT
  rw [join_eq, tl_join]
  have h2 := joinL_len (tl (Str.ofString " ")) ((sA a).map tl) (fun p hp => by
    obtain ⟨x, hx, rfl⟩ := List.mem_map.mp hp
    have := sA_len1 h x hx
    rw [← this]
    show (tl x).length = x.cps.size
    rw [← Array.length_toList]) (by decide +kernel)
  simpa [sA] using h2
theorem str_len_app (x y : Str) : (x ++ y).length = x.length + y.length := Str.length_append x y
theorem lineT_len {r : Rl} (h1 : In9 r.1) (h2 : In9 r.2) : (lineT r).length ≤ 2 * r.1.length + 2 * r.2.length + 3 := by
  unfold lineT
  rw [str_len_app, str_len_app]
  have e : (Str.ofString " = ").length = 3 := by decide +kernel
  have := bagT_len h1
  have := bagT_len h2
  omega
/-- what is asked of a market for its text -/
structure TextM (g : Nat) (ts : List Rl) : Prop where
  g0 : 0 < g
  g4 : g ≤ 4
  len : ts.length ≤ 4
  all : ∀ r ∈ ts, GoodT g 4 r
theorem in9 {a : List Int} (h : In0 a) : In9 a := fun x hx => by have := h x hx; omega
theorem TextM.lines {g : Nat} {ts : List Rl} (T : TextM g ts) : ∀ x ∈ headT g :: ts.map lineT, x.length ≤ 100 := fun x hx => by
  rcases List.mem_cons.mp hx with rfl | hx
  · unfold headT
    have h1 := T.g0
    have h2 := T.g4
    rw [str_len_app, sI_len (by omega) (by omega)]
    decide +kernel
  · obtain ⟨r, hr, rfl⟩ := List.mem_map.mp hx
    have G := T.all r hr
    have := lineT_len (in9 G.a1) (in9 G.a2)
    have := G.l1
    have := G.l2
    have := T.g4
    omega
theorem sum_le_len {P : List Str} {n : Nat} : (∀ x ∈ P, x.length ≤ n) → (P.map (·.length)).sum ≤ n * P.length := by
  induction P with
  | nil => intro _; simp
  | cons p P ih =>
    intro h
    have h1 := ih fun x hx => h x (List.mem_cons_of_mem _ hx)
    have h2 := h p List.mem_cons_self
    rw [List.map_cons, List.sum_cons, List.length_cons, Nat.mul_succ]
    omega
theorem TextM.sum {g : Nat} {ts : List Rl} (T : TextM g ts) : ((headT g :: ts.map lineT).map (·.length)).sum + (headT g :: ts.map lineT).length * (Str.ofString "\n").length ≤ 16777216 := by
  have h := sum_le_len T.lines
  have h1 : (Str.ofString "\n").length = 1 := by decide +kernel
  have h2 := T.len
  have h3 : (headT g :: ts.map lineT).length ≤ 5 := by simp; omega
  rw [h1]
  omega
theorem set_last {S : Store} {d e : DO} : (S ++ [some d]).set S.length (some e) = S ++ [some e] := by
  rw [List.set_append_right _ _ (Nat.le_refl _), Nat.sub_self]
  rfl
theorem get_last {S : Store} {d : DO} : (S ++ [some d])[S.length]? = some (some d) := by
  rw [List.getElem?_append_right (Nat.le_refl _), Nat.sub_self]
  rfl
theorem market_text_ok {g : Nat} {ts : List Rl} {S : Store} {Q : MK DV} {E : MX} (T : TextM g ts) (q : ∀ ds, Q (.str (mText g ts)) (S ++ [some (.lst ds)])) : m_market_text [mV g ts] S Q E := by
  have h1 := T.g0
  have h2 := T.g4
  unfold mV
  simp only [app4 m_market_text_e, app3 b_market_text_e, mBody_e, startD_e, mNext_e, mSeq_e, mExpr_e, mRet_e, mRetN_e, mIfS_e, mBreak_e, mCont_e, mSet_e, mAsg_e, mPar2_e, mPar3_e, mVar_e, slot_0, slot_s, mC_e, mOp_e, mUn_e, mT_e, mAnd_e, mOr_e, mNot_e, mAndV_e, mOrV_e, mNotV_e, mIf_e, mTup_0, mTup_1, mTup_2, mTup_3, mLst_0, mLst_1, mLst_2, mLst_3, mLst_4, mCall_1, mCall_2, mCallF_1, mCallF_2, mCallF_3, mCallF_4, mFor_e, iR1_e, iZ_e, iE_e, iS_e, mLc_e, mLcO_e, mYes_e, gTg_e, bindT_nm, bindT_1, bindT_2, bindT_3, onEnv_s, onInt_i, onBl_b, onSeq_t, onSeq_l, onSeq_f, onZip_t, onZip_l, onEnum_t, onEnum_l, onT_t, onT_f, onSome_s, fAdd_ii, fAdd_tt, fAdd_ll, fAdd_ss, fSub_ii, fMul_ii, fMul_li, fDiv_ii, fMod_ii, fPow_ii, fNeg_i, fLe_ii, fGt_ii, fGe_ii, fLt_ii, fEq_ii, fEq_ss, fEq_bb, gLen_t, gLen_l, gLen_f, gInt_i, gInt_b, gBool_b, gList_t, gList_l, gList_f, gTuple_t, gTuple_l, gSum_t, gSum_l, fIx_t, fIx_l, fIx_f, fSl_t, fSl_l, fSl_f, fRev_t, fRev_l, wipeD_n, wipeD_c, mPN_e, mPS_e, mSl_e, mDct_e, mChain_e, gMax2_ii, fMulO_li, fMulT_e, iR2_e, fEqN_l, mLst_7, mLst_8, mLst_9, mLst_10, mLst_11, mLst_12, mLst_13, mLst_14, mLst_15, mLst_16, mLst_17, mLst_18, mLst_19, mLst_20, mDcx_e, mMeth_e, mMeth0_e, tyM_str, true_and, mLstO_0, mLstO_1, mLstO_2, mLstO_3, mLstO_4, mTup_4, mLstO_5, mLst_5, mTup_5, mLstO_6, mLst_6, mTup_6, gIsi_non_int, gIsi_non_bool, gIsi_non_tuple, gIsi_non_str, gIsi_non_list, fIs_non, gIsi_bl_int, gIsi_bl_bool, gIsi_bl_tuple, gIsi_bl_str, gIsi_bl_list, fIs_bl, gIsi_int_int, gIsi_int_bool, gIsi_int_tuple, gIsi_int_str, gIsi_int_list, fIs_int, gIsi_str_int, gIsi_str_bool, gIsi_str_tuple, gIsi_str_str, gIsi_str_list, fIs_str, gIsi_tup_int, gIsi_tup_bool, gIsi_tup_tuple, gIsi_tup_str, gIsi_tup_list, fIs_tup, gIsi_lst_int, gIsi_lst_bool, gIsi_lst_tuple, gIsi_lst_str, gIsi_lst_list, fIs_lst, gIsi_frz_int, gIsi_frz_bool, gIsi_frz_tuple, gIsi_frz_str, gIsi_frz_list, fIs_frz, gIsi_dct_int, gIsi_dct_bool, gIsi_dct_tuple, gIsi_dct_str, gIsi_dct_list, fIs_dct, List.map_cons, List.map_nil, List.length_cons, List.length_nil, List.cons_append, List.nil_append, List.set_cons_zero, List.set_cons_succ, List.replicate_zero, List.replicate_succ, atI_0, atI_1]
  refine gStr_ok (by omega) (by omega) ?_
  simp only [mBody_e, startD_e, mNext_e, mSeq_e, mExpr_e, mRet_e, mRetN_e, mIfS_e, mBreak_e, mCont_e, mSet_e, mAsg_e, mPar2_e, mPar3_e, mVar_e, slot_0, slot_s, mC_e, mOp_e, mUn_e, mT_e, mAnd_e, mOr_e, mNot_e, mAndV_e, mOrV_e, mNotV_e, mIf_e, mTup_0, mTup_1, mTup_2, mTup_3, mLst_0, mLst_1, mLst_2, mLst_3, mLst_4, mCall_1, mCall_2, mCallF_1, mCallF_2, mCallF_3, mCallF_4, mFor_e, iR1_e, iZ_e, iE_e, iS_e, mLc_e, mLcO_e, mYes_e, gTg_e, bindT_nm, bindT_1, bindT_2, bindT_3, onEnv_s, onInt_i, onBl_b, onSeq_t, onSeq_l, onSeq_f, onZip_t, onZip_l, onEnum_t, onEnum_l, onT_t, onT_f, onSome_s, fAdd_ii, fAdd_tt, fAdd_ll, fAdd_ss, fSub_ii, fMul_ii, fMul_li, fDiv_ii, fMod_ii, fPow_ii, fNeg_i, fLe_ii, fGt_ii, fGe_ii, fLt_ii, fEq_ii, fEq_ss, fEq_bb, gLen_t, gLen_l, gLen_f, gInt_i, gInt_b, gBool_b, gList_t, gList_l, gList_f, gTuple_t, gTuple_l, gSum_t, gSum_l, fIx_t, fIx_l, fIx_f, fSl_t, fSl_l, fSl_f, fRev_t, fRev_l, wipeD_n, wipeD_c, mPN_e, mPS_e, mSl_e, mDct_e, mChain_e, gMax2_ii, fMulO_li, fMulT_e, iR2_e, fEqN_l, mLst_7, mLst_8, mLst_9, mLst_10, mLst_11, mLst_12, mLst_13, mLst_14, mLst_15, mLst_16, mLst_17, mLst_18, mLst_19, mLst_20, mDcx_e, mMeth_e, mMeth0_e, tyM_str, true_and, mLstO_0, mLstO_1, mLstO_2, mLstO_3, mLstO_4, mTup_4, mLstO_5, mLst_5, mTup_5, mLstO_6, mLst_6, mTup_6, gIsi_non_int, gIsi_non_bool, gIsi_non_tuple, gIsi_non_str, gIsi_non_list, fIs_non, gIsi_bl_int, gIsi_bl_bool, gIsi_bl_tuple, gIsi_bl_str, gIsi_bl_list, fIs_bl, gIsi_int_int, gIsi_int_bool, gIsi_int_tuple, gIsi_int_str, gIsi_int_list, fIs_int, gIsi_str_int, gIsi_str_bool, gIsi_str_tuple, gIsi_str_str, gIsi_str_list, fIs_str, gIsi_tup_int, gIsi_tup_bool, gIsi_tup_tuple, gIsi_tup_str, gIsi_tup_list, fIs_tup, gIsi_lst_int, gIsi_lst_bool, gIsi_lst_tuple, gIsi_lst_str, gIsi_lst_list, fIs_lst, gIsi_frz_int, gIsi_frz_bool, gIsi_frz_tuple, gIsi_frz_str, gIsi_frz_list, fIs_frz, gIsi_dct_int, gIsi_dct_bool, gIsi_dct_tuple, gIsi_dct_str, gIsi_dct_list, fIs_dct, List.map_cons, List.map_nil, List.length_cons, List.length_nil, List.cons_append, List.nil_append, List.set_cons_zero, List.set_cons_succ, List.replicate_zero, List.replicate_succ, app3 r_market_text_2_e, atI_0, atI_1]
  refine ⟨by
    have e : (Str.ofString "goods ").length = 6 := by decide +kernel
    rw [e, sI_len (by omega) (by omega)]
    decide, ?_⟩
  have base : S ++ [some (DO.lst [DV.str (Str.ofString "goods " ++ sI g)])] = S ++ [some (.lst (strsV [headT g]))] := rfl
  rw [base]
  have key : ∀ (ts2 ts1 : List Rl) (d2 d3 : Option DV) (D : EndsD), D.rt = Q → ts1 ++ ts2 = ts → forGo (gTg (.tp [.nm 2, .nm 3])) f_market_text_1 { D with nx := r_market_text_1 D } (rsV ts2) [some (mV g ts), some (.ref S.length), d2, d3] (S ++ [some (.lst (strsV (headT g :: ts1.map lineT)))]) := by
    intro ts2
    induction ts2 with
    | nil =>
      intro ts1 d2 d3 D hD e
      rw [List.append_nil] at e
      subst e
      show r_market_text_1 D _ _
      simp only [app3 r_market_text_1_e, mBody_e, startD_e, mNext_e, mSeq_e, mExpr_e, mRet_e, mRetN_e, mIfS_e, mBreak_e, mCont_e, mSet_e, mAsg_e, mPar2_e, mPar3_e, mVar_e, slot_0, slot_s, mC_e, mOp_e, mUn_e, mT_e, mAnd_e, mOr_e, mNot_e, mAndV_e, mOrV_e, mNotV_e, mIf_e, mTup_0, mTup_1, mTup_2, mTup_3, mLst_0, mLst_1, mLst_2, mLst_3, mLst_4, mCall_1, mCall_2, mCallF_1, mCallF_2, mCallF_3, mCallF_4, mFor_e, iR1_e, iZ_e, iE_e, iS_e, mLc_e, mLcO_e, mYes_e, gTg_e, bindT_nm, bindT_1, bindT_2, bindT_3, onEnv_s, onInt_i, onBl_b, onSeq_t, onSeq_l, onSeq_f, onZip_t, onZip_l, onEnum_t, onEnum_l, onT_t, onT_f, onSome_s, fAdd_ii, fAdd_tt, fAdd_ll, fAdd_ss, fSub_ii, fMul_ii, fMul_li, fDiv_ii, fMod_ii, fPow_ii, fNeg_i, fLe_ii, fGt_ii, fGe_ii, fLt_ii, fEq_ii, fEq_ss, fEq_bb, gLen_t, gLen_l, gLen_f, gInt_i, gInt_b, gBool_b, gList_t, gList_l, gList_f, gTuple_t, gTuple_l, gSum_t, gSum_l, fIx_t, fIx_l, fIx_f, fSl_t, fSl_l, fSl_f, fRev_t, fRev_l, wipeD_n, wipeD_c, mPN_e, mPS_e, mSl_e, mDct_e, mChain_e, gMax2_ii, fMulO_li, fMulT_e, iR2_e, fEqN_l, mLst_7, mLst_8, mLst_9, mLst_10, mLst_11, mLst_12, mLst_13, mLst_14, mLst_15, mLst_16, mLst_17, mLst_18, mLst_19, mLst_20, mDcx_e, mMeth_e, mMeth0_e, tyM_str, true_and, mLstO_0, mLstO_1, mLstO_2, mLstO_3, mLstO_4, mTup_4, mLstO_5, mLst_5, mTup_5, mLstO_6, mLst_6, mTup_6, gIsi_non_int, gIsi_non_bool, gIsi_non_tuple, gIsi_non_str, gIsi_non_list, fIs_non, gIsi_bl_int, gIsi_bl_bool, gIsi_bl_tuple, gIsi_bl_str, gIsi_bl_list, fIs_bl, gIsi_int_int, gIsi_int_bool, gIsi_int_tuple, gIsi_int_str, gIsi_int_list, fIs_int, gIsi_str_int, gIsi_str_bool, gIsi_str_tuple, gIsi_str_str, gIsi_str_list, fIs_str, gIsi_tup_int, gIsi_tup_bool, gIsi_tup_tuple, gIsi_tup_str, gIsi_tup_list, fIs_tup, gIsi_lst_int, gIsi_lst_bool, gIsi_lst_tuple, gIsi_lst_str, gIsi_lst_list, fIs_lst, gIsi_frz_int, gIsi_frz_bool, gIsi_frz_tuple, gIsi_frz_str, gIsi_frz_list, fIs_frz, gIsi_dct_int, gIsi_dct_bool, gIsi_dct_tuple, gIsi_dct_str, gIsi_dct_list, fIs_dct, List.map_cons, List.map_nil, List.length_cons, List.length_nil, List.cons_append, List.nil_append, List.set_cons_zero, List.set_cons_succ, List.replicate_zero, List.replicate_succ, hD]
      exact ⟨_, _, _, rfl, rfl, seqD_ref get_last, T.sum, q _⟩
    | cons r ts2 ih =>
      intro ts1 d2 d3 D hD e
      have hr : r ∈ ts := by
        rw [← e]
        simp
      have G := T.all r hr
      have l1 := G.l1
      have l2 := G.l2
      show forGo _ _ _ (.tup [.tup (intsV r.1), .tup (intsV r.2)] :: rsV ts2) _ _
      simp only [forGo_c, app3 f_market_text_1_e, mBody_e, startD_e, mNext_e, mSeq_e, mExpr_e, mRet_e, mRetN_e, mIfS_e, mBreak_e, mCont_e, mSet_e, mAsg_e, mPar2_e, mPar3_e, mVar_e, slot_0, slot_s, mC_e, mOp_e, mUn_e, mT_e, mAnd_e, mOr_e, mNot_e, mAndV_e, mOrV_e, mNotV_e, mIf_e, mTup_0, mTup_1, mTup_2, mTup_3, mLst_0, mLst_1, mLst_2, mLst_3, mLst_4, mCall_1, mCall_2, mCallF_1, mCallF_2, mCallF_3, mCallF_4, mFor_e, iR1_e, iZ_e, iE_e, iS_e, mLc_e, mLcO_e, mYes_e, gTg_e, bindT_nm, bindT_1, bindT_2, bindT_3, onEnv_s, onInt_i, onBl_b, onSeq_t, onSeq_l, onSeq_f, onZip_t, onZip_l, onEnum_t, onEnum_l, onT_t, onT_f, onSome_s, fAdd_ii, fAdd_tt, fAdd_ll, fAdd_ss, fSub_ii, fMul_ii, fMul_li, fDiv_ii, fMod_ii, fPow_ii, fNeg_i, fLe_ii, fGt_ii, fGe_ii, fLt_ii, fEq_ii, fEq_ss, fEq_bb, gLen_t, gLen_l, gLen_f, gInt_i, gInt_b, gBool_b, gList_t, gList_l, gList_f, gTuple_t, gTuple_l, gSum_t, gSum_l, fIx_t, fIx_l, fIx_f, fSl_t, fSl_l, fSl_f, fRev_t, fRev_l, wipeD_n, wipeD_c, mPN_e, mPS_e, mSl_e, mDct_e, mChain_e, gMax2_ii, fMulO_li, fMulT_e, iR2_e, fEqN_l, mLst_7, mLst_8, mLst_9, mLst_10, mLst_11, mLst_12, mLst_13, mLst_14, mLst_15, mLst_16, mLst_17, mLst_18, mLst_19, mLst_20, mDcx_e, mMeth_e, mMeth0_e, tyM_str, true_and, mLstO_0, mLstO_1, mLstO_2, mLstO_3, mLstO_4, mTup_4, mLstO_5, mLst_5, mTup_5, mLstO_6, mLst_6, mTup_6, gIsi_non_int, gIsi_non_bool, gIsi_non_tuple, gIsi_non_str, gIsi_non_list, fIs_non, gIsi_bl_int, gIsi_bl_bool, gIsi_bl_tuple, gIsi_bl_str, gIsi_bl_list, fIs_bl, gIsi_int_int, gIsi_int_bool, gIsi_int_tuple, gIsi_int_str, gIsi_int_list, fIs_int, gIsi_str_int, gIsi_str_bool, gIsi_str_tuple, gIsi_str_str, gIsi_str_list, fIs_str, gIsi_tup_int, gIsi_tup_bool, gIsi_tup_tuple, gIsi_tup_str, gIsi_tup_list, fIs_tup, gIsi_lst_int, gIsi_lst_bool, gIsi_lst_tuple, gIsi_lst_str, gIsi_lst_list, fIs_lst, gIsi_frz_int, gIsi_frz_bool, gIsi_frz_tuple, gIsi_frz_str, gIsi_frz_list, fIs_frz, gIsi_dct_int, gIsi_dct_bool, gIsi_dct_tuple, gIsi_dct_str, gIsi_dct_list, fIs_dct, List.map_cons, List.map_nil, List.length_cons, List.length_nil, List.cons_append, List.nil_append, List.set_cons_zero, List.set_cons_succ, List.replicate_zero, List.replicate_succ]
      refine ⟨tyM_ref get_last, bag_text_ok (by omega) (in9 G.a1) ?_⟩
      simp only [mBody_e, startD_e, mNext_e, mSeq_e, mExpr_e, mRet_e, mRetN_e, mIfS_e, mBreak_e, mCont_e, mSet_e, mAsg_e, mPar2_e, mPar3_e, mVar_e, slot_0, slot_s, mC_e, mOp_e, mUn_e, mT_e, mAnd_e, mOr_e, mNot_e, mAndV_e, mOrV_e, mNotV_e, mIf_e, mTup_0, mTup_1, mTup_2, mTup_3, mLst_0, mLst_1, mLst_2, mLst_3, mLst_4, mCall_1, mCall_2, mCallF_1, mCallF_2, mCallF_3, mCallF_4, mFor_e, iR1_e, iZ_e, iE_e, iS_e, mLc_e, mLcO_e, mYes_e, gTg_e, bindT_nm, bindT_1, bindT_2, bindT_3, onEnv_s, onInt_i, onBl_b, onSeq_t, onSeq_l, onSeq_f, onZip_t, onZip_l, onEnum_t, onEnum_l, onT_t, onT_f, onSome_s, fAdd_ii, fAdd_tt, fAdd_ll, fAdd_ss, fSub_ii, fMul_ii, fMul_li, fDiv_ii, fMod_ii, fPow_ii, fNeg_i, fLe_ii, fGt_ii, fGe_ii, fLt_ii, fEq_ii, fEq_ss, fEq_bb, gLen_t, gLen_l, gLen_f, gInt_i, gInt_b, gBool_b, gList_t, gList_l, gList_f, gTuple_t, gTuple_l, gSum_t, gSum_l, fIx_t, fIx_l, fIx_f, fSl_t, fSl_l, fSl_f, fRev_t, fRev_l, wipeD_n, wipeD_c, mPN_e, mPS_e, mSl_e, mDct_e, mChain_e, gMax2_ii, fMulO_li, fMulT_e, iR2_e, fEqN_l, mLst_7, mLst_8, mLst_9, mLst_10, mLst_11, mLst_12, mLst_13, mLst_14, mLst_15, mLst_16, mLst_17, mLst_18, mLst_19, mLst_20, mDcx_e, mMeth_e, mMeth0_e, tyM_str, true_and, mLstO_0, mLstO_1, mLstO_2, mLstO_3, mLstO_4, mTup_4, mLstO_5, mLst_5, mTup_5, mLstO_6, mLst_6, mTup_6, gIsi_non_int, gIsi_non_bool, gIsi_non_tuple, gIsi_non_str, gIsi_non_list, fIs_non, gIsi_bl_int, gIsi_bl_bool, gIsi_bl_tuple, gIsi_bl_str, gIsi_bl_list, fIs_bl, gIsi_int_int, gIsi_int_bool, gIsi_int_tuple, gIsi_int_str, gIsi_int_list, fIs_int, gIsi_str_int, gIsi_str_bool, gIsi_str_tuple, gIsi_str_str, gIsi_str_list, fIs_str, gIsi_tup_int, gIsi_tup_bool, gIsi_tup_tuple, gIsi_tup_str, gIsi_tup_list, fIs_tup, gIsi_lst_int, gIsi_lst_bool, gIsi_lst_tuple, gIsi_lst_str, gIsi_lst_list, fIs_lst, gIsi_frz_int, gIsi_frz_bool, gIsi_frz_tuple, gIsi_frz_str, gIsi_frz_list, fIs_frz, gIsi_dct_int, gIsi_dct_bool, gIsi_dct_tuple, gIsi_dct_str, gIsi_dct_list, fIs_dct, List.map_cons, List.map_nil, List.length_cons, List.length_nil, List.cons_append, List.nil_append, List.set_cons_zero, List.set_cons_succ, List.replicate_zero, List.replicate_succ]
      have b1 := bagT_len (in9 G.a1)
      have b2 := bagT_len (in9 G.a2)
      have e3 : (Str.ofString " = ").length = 3 := by decide +kernel
      refine ⟨by omega, bag_text_ok (by omega) (in9 G.a2) ?_⟩
      simp only [mBody_e, startD_e, mNext_e, mSeq_e, mExpr_e, mRet_e, mRetN_e, mIfS_e, mBreak_e, mCont_e, mSet_e, mAsg_e, mPar2_e, mPar3_e, mVar_e, slot_0, slot_s, mC_e, mOp_e, mUn_e, mT_e, mAnd_e, mOr_e, mNot_e, mAndV_e, mOrV_e, mNotV_e, mIf_e, mTup_0, mTup_1, mTup_2, mTup_3, mLst_0, mLst_1, mLst_2, mLst_3, mLst_4, mCall_1, mCall_2, mCallF_1, mCallF_2, mCallF_3, mCallF_4, mFor_e, iR1_e, iZ_e, iE_e, iS_e, mLc_e, mLcO_e, mYes_e, gTg_e, bindT_nm, bindT_1, bindT_2, bindT_3, onEnv_s, onInt_i, onBl_b, onSeq_t, onSeq_l, onSeq_f, onZip_t, onZip_l, onEnum_t, onEnum_l, onT_t, onT_f, onSome_s, fAdd_ii, fAdd_tt, fAdd_ll, fAdd_ss, fSub_ii, fMul_ii, fMul_li, fDiv_ii, fMod_ii, fPow_ii, fNeg_i, fLe_ii, fGt_ii, fGe_ii, fLt_ii, fEq_ii, fEq_ss, fEq_bb, gLen_t, gLen_l, gLen_f, gInt_i, gInt_b, gBool_b, gList_t, gList_l, gList_f, gTuple_t, gTuple_l, gSum_t, gSum_l, fIx_t, fIx_l, fIx_f, fSl_t, fSl_l, fSl_f, fRev_t, fRev_l, wipeD_n, wipeD_c, mPN_e, mPS_e, mSl_e, mDct_e, mChain_e, gMax2_ii, fMulO_li, fMulT_e, iR2_e, fEqN_l, mLst_7, mLst_8, mLst_9, mLst_10, mLst_11, mLst_12, mLst_13, mLst_14, mLst_15, mLst_16, mLst_17, mLst_18, mLst_19, mLst_20, mDcx_e, mMeth_e, mMeth0_e, tyM_str, true_and, mLstO_0, mLstO_1, mLstO_2, mLstO_3, mLstO_4, mTup_4, mLstO_5, mLst_5, mTup_5, mLstO_6, mLst_6, mTup_6, gIsi_non_int, gIsi_non_bool, gIsi_non_tuple, gIsi_non_str, gIsi_non_list, fIs_non, gIsi_bl_int, gIsi_bl_bool, gIsi_bl_tuple, gIsi_bl_str, gIsi_bl_list, fIs_bl, gIsi_int_int, gIsi_int_bool, gIsi_int_tuple, gIsi_int_str, gIsi_int_list, fIs_int, gIsi_str_int, gIsi_str_bool, gIsi_str_tuple, gIsi_str_str, gIsi_str_list, fIs_str, gIsi_tup_int, gIsi_tup_bool, gIsi_tup_tuple, gIsi_tup_str, gIsi_tup_list, fIs_tup, gIsi_lst_int, gIsi_lst_bool, gIsi_lst_tuple, gIsi_lst_str, gIsi_lst_list, fIs_lst, gIsi_frz_int, gIsi_frz_bool, gIsi_frz_tuple, gIsi_frz_str, gIsi_frz_list, fIs_frz, gIsi_dct_int, gIsi_dct_bool, gIsi_dct_tuple, gIsi_dct_str, gIsi_dct_list, fIs_dct, List.map_cons, List.map_nil, List.length_cons, List.length_nil, List.cons_append, List.nil_append, List.set_cons_zero, List.set_cons_succ, List.replicate_zero, List.replicate_succ]
      refine ⟨by rw [str_len_app]; omega, append_ok get_last ?_ ?_⟩
      · have := T.len
        have : ts1.length + (r :: ts2).length = ts.length := by rw [← e, List.length_append]
        simp [strsV]
        omega
      · rw [set_last]
        have e4 : strsV (headT g :: ts1.map lineT) ++ [DV.str (bagT r.1 ++ Str.ofString " = " ++ bagT r.2)] = strsV (headT g :: (ts1 ++ [r]).map lineT) := by
          unfold strsV
          simp
          rfl
        rw [e4]
        exact ih (ts1 ++ [r]) _ _ D hD (by rw [List.append_assoc]; exact e)
  exact key ts [] none none _ rfl rfl
/-! ### reading -/
theorem tl_sp : tl (Str.ofString " ") = [32] := by decide +kernel
theorem tl_nl : tl (Str.ofString "\n") = [10] := by decide +kernel
def wordsT (r : Rl) : List Str := sA r.1 ++ [Str.ofString "="] ++ sA r.2
theorem joinL_app (S : List Nat) : ∀ (P P2 : List (List Nat)), P ≠ [] → P2 ≠ [] → joinL S (P ++ P2) = joinL S P ++ (S ++ joinL S P2)
  | [], _, h, _ => absurd rfl h
  | [p], [], _, h => absurd rfl h
  | [p], q :: r, _, _ => rfl
  | p :: q :: r, P2, _, h => by
    have ih := joinL_app S (q :: r) P2 (by simp) h
    show p ++ (S ++ joinL S ((q :: r) ++ P2)) = (p ++ (S ++ joinL S (q :: r))) ++ (S ++ joinL S P2)
    rw [ih]
    simp only [List.append_assoc]
theorem line_join {r : Rl} (h1 : r.1 ≠ []) (h2 : r.2 ≠ []) : lineT r = Txt.join (Str.ofString " ") (wordsT r) := by
  refine ext_tl ?_
  unfold lineT wordsT bagT
  rw [tl_append, tl_append, join_eq, join_eq, join_eq, tl_join, tl_join, tl_join, tl_sp]
  have n1 : (sA r.1).map tl ≠ [] := by simpa [sA] using h1
  have n2 : (sA r.2).map tl ≠ [] := by simpa [sA] using h2
  rw [List.map_append, List.map_append, joinL_app _ _ _ (by simp) n2, joinL_app _ _ _ n1 (by simp)]
  have e : tl (Str.ofString " = ") = [32, 61, 32] := by decide +kernel
  have e2 : tl (Str.ofString "=") = [61] := by decide +kernel
  rw [e]
  simp only [List.map_cons, List.map_nil, e2, joinL, List.append_assoc, List.cons_append, List.nil_append]
theorem sA_no {a : List Int} (h : In9 a) {s : Nat} (hs : s < 48) : ∀ p ∈ sA a, s ∉ tl p := fun p hp hm => by
  obtain ⟨x, hx, rfl⟩ := List.mem_map.mp hp
  rw [sI_tl (h x hx).1 (h x hx).2] at hm
  have := List.mem_singleton.mp hm
  omega
theorem line_split {r : Rl} (h1 : r.1 ≠ []) (h2 : r.2 ≠ []) (a1 : In9 r.1) (a2 : In9 r.2) : Txt.split (lineT r) (Str.ofString " ") = wordsT r := by
  rw [line_join h1 h2]
  refine TL.split_join (s := 32) (S := []) tl_sp (by decide +kernel) (by simp [wordsT]) fun p hp => ?_
  rcases List.mem_append.mp (show p ∈ (sA r.1 ++ [Str.ofString "="]) ++ sA r.2 from hp) with hp | hp
  · rcases List.mem_append.mp hp with hp | hp
    · exact sA_no a1 (by decide) p hp
    · rw [List.mem_singleton.mp hp]
      decide +kernel
  · exact sA_no a2 (by decide) p hp
theorem mem_joinL {S : List Nat} {s : Nat} : ∀ {P : List (List Nat)}, s ∈ joinL S P → s ∈ S ∨ ∃ p ∈ P, s ∈ p
  | [], h => by simp [joinL] at h
  | [p], h => .inr ⟨p, by simp, h⟩
  | p :: q :: r, h => by
    simp only [joinL, List.mem_append] at h
    rcases h with h | h | h
    · exact .inr ⟨p, by simp, h⟩
    · exact .inl h
    · rcases mem_joinL (P := q :: r) h with h | ⟨x, hx, h⟩
      · exact .inl h
      · exact .inr ⟨x, List.mem_cons_of_mem _ hx, h⟩
theorem line_no {r : Rl} (a1 : In9 r.1) (a2 : In9 r.2) : 10 ∉ tl (lineT r) := fun h => by
  unfold lineT bagT at h
  rw [tl_append, tl_append, join_eq, join_eq, tl_join, tl_join, tl_sp] at h
  have one : ∀ {a : List Int}, In9 a → 10 ∉ joinL [32] ((sA a).map tl) := fun ha h => by
    rcases mem_joinL h with h | ⟨p, hp, h⟩
    · revert h
      decide
    · obtain ⟨x, hx, rfl⟩ := List.mem_map.mp hp
      exact sA_no ha (by decide) x hx h
  rcases List.mem_append.mp h with h | h
  · rcases List.mem_append.mp h with h | h
    · exact one a1 h
    · revert h
      decide +kernel
  · exact one a2 h
theorem head_no {g : Nat} (h : g ≤ 9) : 10 ∉ tl (headT g) := fun hm => by
  unfold headT at hm
  rw [tl_append, sI_tl (by omega) (by omega)] at hm
  rcases List.mem_append.mp hm with hm | hm
  · revert hm
    decide +kernel
  · have := List.mem_singleton.mp hm
    omega
theorem text_split {g : Nat} {ts : List Rl} (T : TextM g ts) : Txt.split (mText g ts) (Str.ofString "\n") = headT g :: ts.map lineT := by
  unfold mText
  refine TL.split_join (s := 10) (S := []) tl_nl (by decide +kernel) (by simp) fun p hp => ?_
  rcases List.mem_cons.mp hp with rfl | hp
  · exact head_no (by have := T.g4; omega)
  · obtain ⟨r, hr, rfl⟩ := List.mem_map.mp hp
    exact line_no (in9 (T.all r hr).a1) (in9 (T.all r hr).a2)
/-! ### reading, whatever the text -/
def digL : List Nat → Option Int
  | [c] => if 48 ≤ c ∧ c ≤ 52 then some ((c : Int) - 48) else none
  | _ => none
def digS (x : Str) : Option Int := digL (tl x)
def bagL (ws : List Str) : List Int := ws.map fun w => (digS w).getD 0
def bagS (ws : List Str) : Option (List Int) := if ws.all (fun w => (digS w).isSome) then (if (bagL ws).all (fun x => decide (x ≤ 3)) && decide ((bagL ws).sum ≤ 4) then some (bagL ws) else none) else none
def optB : Option (List Int) → DV
  | some a => .tup (intsV a)
  | none => .non
theorem str_of_tl {x : Str} {c : Nat} (h : tl x = [c]) : x = ⟨#[c]⟩ := ext_tl h
theorem dig_int {x : Str} {i : Int} (h : digS x = some i) : ∃ c, x = ⟨#[c]⟩ ∧ PySem.intText? x = some i ∧ x.length ≤ 640 ∧ c ∈ (Str.ofString "01234").cps.toList := by
  unfold digS at h
  match ht : tl x, h with
  | [], h => cases h
  | [c], h =>
    have hx := str_of_tl ht
    have h' : (if 48 ≤ c ∧ c ≤ 52 then some ((c : Int) - 48) else none) = some i := h
    split at h'
    · rename_i hc
      cases h'
      subst hx
      refine ⟨c, rfl, ?_⟩
      have : c = 48 ∨ c = 49 ∨ c = 50 ∨ c = 51 ∨ c = 52 := by omega
      rcases this with rfl | rfl | rfl | rfl | rfl <;> exact ⟨by decide +kernel, by decide +kernel, by decide +kernel⟩
    · cases h'
  | _ :: _ :: _, h => cases h
theorem no_dig {x : Str} (h : digS x = none) (hl : x.length = 1) : ∃ c, x = ⟨#[c]⟩ ∧ c ∉ (Str.ofString "01234").cps.toList := by
  have hl' : (tl x).length = 1 := by
    rw [← hl]
    show (tl x).length = x.cps.size
    rw [← Array.length_toList]
  match ht : tl x, hl' with
  | [c], _ =>
    refine ⟨c, str_of_tl ht, fun hm => ?_⟩
    have e : (Str.ofString "01234").cps.toList = [48, 49, 50, 51, 52] := by decide +kernel
    rw [e] at hm
    have hc : 48 ≤ c ∧ c ≤ 52 := by
      simp only [List.mem_cons, List.not_mem_nil, or_false] at hm
      omega
    unfold digS at h
    rw [ht] at h
    have h' : (if 48 ≤ c ∧ c ≤ 52 then some ((c : Int) - 48) else none) = none := h
    rw [if_pos hc] at h'
    cases h'
theorem gLen_s {x : Str} {S : Store} {Q : MK DV} : gLen [.str x] S Q = (x.length ≤ 16777216 ∧ Q (.int x.length) S) := id rfl
theorem all_le_max {l : List Int} {m : Int} (h : m ∈ l) (h2 : ∀ y ∈ l, y ≤ m) : l.all (fun z => decide (z ≤ 3)) = decide (m ≤ 3) := by
  by_cases c : m ≤ 3
  · rw [decide_eq_true c, List.all_eq_true]
    intro y hy
    have := h2 y hy
    exact decide_eq_true (by omega)
  · rw [decide_eq_false c, List.all_eq_false]
    exact ⟨m, h, by simpa using c⟩
theorem filt_allS (p : Str → Bool) : ∀ ws : List Str, ((ws.filter fun w => !(p w)).map fun w => DV.str w).isEmpty = ws.all p
  | [] => rfl
  | w :: ws => by
    have ih := filt_allS p ws
    cases h : p w <;> simp [List.filter_cons, h, ih]
theorem len_joinL {S p : List Nat} : ∀ {P : List (List Nat)}, p ∈ P → p.length ≤ (joinL S P).length
  | [], h => nomatch h
  | [q], h => by
    rw [List.mem_singleton.mp h]
    exact Nat.le_refl _
  | q :: r :: P, h => by
    simp only [joinL, List.length_append]
    rcases List.mem_cons.mp h with rfl | h
    · omega
    · have := len_joinL (S := S) (P := r :: P) h
      omega
theorem len_split {x y w : Str} (h : w ∈ Txt.split x y) : w.length ≤ x.length := by
  have e := PySem.StrLaws.join_split x y
  have h1 := len_joinL (S := tl y) (List.mem_map_of_mem (f := tl) h)
  rw [← tl_join, e] at h1
  have e1 : ∀ z : Str, z.length = (tl z).length := fun z => by
    show z.cps.size = _
    rw [← Array.length_toList]
  rw [e1, e1]
  exact h1
theorem read_bag_ok {ws : List Str} {S : Store} {Q : MK DV} {E : MX} (h0 : ws ≠ []) (hl : ws.length < 16777216) (hw : ∀ w ∈ ws, w.length ≤ 16777216) (q : Q (optB (bagS ws)) S) : m_read_bag [.lst (strsV ws)] S Q E := by
  simp only [app4 m_read_bag_e, app3 b_read_bag_e, mBody_e, startD_e, mNext_e, mSeq_e, mExpr_e, mRet_e, mRetN_e, mIfS_e, mBreak_e, mCont_e, mSet_e, mAsg_e, mPar2_e, mPar3_e, mVar_e, slot_0, slot_s, mC_e, mOp_e, mUn_e, mT_e, mAnd_e, mOr_e, mNot_e, mAndV_e, mOrV_e, mNotV_e, mIf_e, mTup_0, mTup_1, mTup_2, mTup_3, mLst_0, mLst_1, mLst_2, mLst_3, mLst_4, mCall_1, mCall_2, mCallF_1, mCallF_2, mCallF_3, mCallF_4, mFor_e, iR1_e, iZ_e, iE_e, iS_e, mLc_e, mLcO_e, mYes_e, gTg_e, bindT_nm, bindT_1, bindT_2, bindT_3, onEnv_s, onInt_i, onBl_b, onSeq_t, onSeq_l, onSeq_f, onZip_t, onZip_l, onEnum_t, onEnum_l, onT_t, onT_f, onSome_s, fAdd_ii, fAdd_tt, fAdd_ll, fAdd_ss, fSub_ii, fMul_ii, fMul_li, fDiv_ii, fMod_ii, fPow_ii, fNeg_i, fLe_ii, fGt_ii, fGe_ii, fLt_ii, fEq_ii, fEq_ss, fEq_bb, gLen_t, gLen_l, gLen_f, gInt_i, gInt_b, gBool_b, gList_t, gList_l, gList_f, gTuple_t, gTuple_l, gSum_t, gSum_l, fIx_t, fIx_l, fIx_f, fSl_t, fSl_l, fSl_f, fRev_t, fRev_l, wipeD_n, wipeD_c, mPN_e, mPS_e, mSl_e, mDct_e, mChain_e, gMax2_ii, fMulO_li, fMulT_e, iR2_e, fEqN_l, mLst_7, mLst_8, mLst_9, mLst_10, mLst_11, mLst_12, mLst_13, mLst_14, mLst_15, mLst_16, mLst_17, mLst_18, mLst_19, mLst_20, mDcx_e, mMeth_e, mMeth0_e, tyM_str, true_and, mLstO_0, mLstO_1, mLstO_2, mLstO_3, mLstO_4, mTup_4, mLstO_5, mLst_5, mTup_5, mLstO_6, mLst_6, mTup_6, gIsi_non_int, gIsi_non_bool, gIsi_non_tuple, gIsi_non_str, gIsi_non_list, fIs_non, gIsi_bl_int, gIsi_bl_bool, gIsi_bl_tuple, gIsi_bl_str, gIsi_bl_list, fIs_bl, gIsi_int_int, gIsi_int_bool, gIsi_int_tuple, gIsi_int_str, gIsi_int_list, fIs_int, gIsi_str_int, gIsi_str_bool, gIsi_str_tuple, gIsi_str_str, gIsi_str_list, fIs_str, gIsi_tup_int, gIsi_tup_bool, gIsi_tup_tuple, gIsi_tup_str, gIsi_tup_list, fIs_tup, gIsi_lst_int, gIsi_lst_bool, gIsi_lst_tuple, gIsi_lst_str, gIsi_lst_list, fIs_lst, gIsi_frz_int, gIsi_frz_bool, gIsi_frz_tuple, gIsi_frz_str, gIsi_frz_list, fIs_frz, gIsi_dct_int, gIsi_dct_bool, gIsi_dct_tuple, gIsi_dct_str, gIsi_dct_list, fIs_dct, List.map_cons, List.map_nil, List.length_cons, List.length_nil, List.cons_append, List.nil_append, List.set_cons_zero, List.set_cons_succ, List.replicate_zero, List.replicate_succ]
  refine lc_fm (fun w : Str => DV.str w) (fun w => DV.str w) (fun w => !(digS w).isSome) ws [] (by simpa using hl) (fun w hww => ⟨_, bindT_nm, fun Qb hq => ?_, fun _ Qc hq => ?_⟩) ?_
  · simp only [mBody_e, startD_e, mNext_e, mSeq_e, mExpr_e, mRet_e, mRetN_e, mIfS_e, mBreak_e, mCont_e, mSet_e, mAsg_e, mPar2_e, mPar3_e, mVar_e, slot_0, slot_s, mC_e, mOp_e, mUn_e, mT_e, mAnd_e, mOr_e, mNot_e, mAndV_e, mOrV_e, mNotV_e, mIf_e, mTup_0, mTup_1, mTup_2, mTup_3, mLst_0, mLst_1, mLst_2, mLst_3, mLst_4, mCall_1, mCall_2, mCallF_1, mCallF_2, mCallF_3, mCallF_4, mFor_e, iR1_e, iZ_e, iE_e, iS_e, mLc_e, mLcO_e, mYes_e, gTg_e, bindT_nm, bindT_1, bindT_2, bindT_3, onEnv_s, onInt_i, onBl_b, onSeq_t, onSeq_l, onSeq_f, onZip_t, onZip_l, onEnum_t, onEnum_l, onT_t, onT_f, onSome_s, fAdd_ii, fAdd_tt, fAdd_ll, fAdd_ss, fSub_ii, fMul_ii, fMul_li, fDiv_ii, fMod_ii, fPow_ii, fNeg_i, fLe_ii, fGt_ii, fGe_ii, fLt_ii, fEq_ii, fEq_ss, fEq_bb, gLen_t, gLen_l, gLen_f, gInt_i, gInt_b, gBool_b, gList_t, gList_l, gList_f, gTuple_t, gTuple_l, gSum_t, gSum_l, fIx_t, fIx_l, fIx_f, fSl_t, fSl_l, fSl_f, fRev_t, fRev_l, wipeD_n, wipeD_c, mPN_e, mPS_e, mSl_e, mDct_e, mChain_e, gMax2_ii, fMulO_li, fMulT_e, iR2_e, fEqN_l, mLst_7, mLst_8, mLst_9, mLst_10, mLst_11, mLst_12, mLst_13, mLst_14, mLst_15, mLst_16, mLst_17, mLst_18, mLst_19, mLst_20, mDcx_e, mMeth_e, mMeth0_e, tyM_str, true_and, mLstO_0, mLstO_1, mLstO_2, mLstO_3, mLstO_4, mTup_4, mLstO_5, mLst_5, mTup_5, mLstO_6, mLst_6, mTup_6, gIsi_non_int, gIsi_non_bool, gIsi_non_tuple, gIsi_non_str, gIsi_non_list, fIs_non, gIsi_bl_int, gIsi_bl_bool, gIsi_bl_tuple, gIsi_bl_str, gIsi_bl_list, fIs_bl, gIsi_int_int, gIsi_int_bool, gIsi_int_tuple, gIsi_int_str, gIsi_int_list, fIs_int, gIsi_str_int, gIsi_str_bool, gIsi_str_tuple, gIsi_str_str, gIsi_str_list, fIs_str, gIsi_tup_int, gIsi_tup_bool, gIsi_tup_tuple, gIsi_tup_str, gIsi_tup_list, fIs_tup, gIsi_lst_int, gIsi_lst_bool, gIsi_lst_tuple, gIsi_lst_str, gIsi_lst_list, fIs_lst, gIsi_frz_int, gIsi_frz_bool, gIsi_frz_tuple, gIsi_frz_str, gIsi_frz_list, fIs_frz, gIsi_dct_int, gIsi_dct_bool, gIsi_dct_tuple, gIsi_dct_str, gIsi_dct_list, fIs_dct, List.map_cons, List.map_nil, List.length_cons, List.length_nil, List.cons_append, List.nil_append, List.set_cons_zero, List.set_cons_succ, List.replicate_zero, List.replicate_succ, gLen_s]
    refine ⟨hw w hww, ?_⟩
    by_cases c : w.length = 1
    · have c' : ((w.length : Nat) : Int) = 1 := by omega
      simp only [decide_eq_true c', Bool.not_true, mBody_e, startD_e, mNext_e, mSeq_e, mExpr_e, mRet_e, mRetN_e, mIfS_e, mBreak_e, mCont_e, mSet_e, mAsg_e, mPar2_e, mPar3_e, mVar_e, slot_0, slot_s, mC_e, mOp_e, mUn_e, mT_e, mAnd_e, mOr_e, mNot_e, mAndV_e, mOrV_e, mNotV_e, mIf_e, mTup_0, mTup_1, mTup_2, mTup_3, mLst_0, mLst_1, mLst_2, mLst_3, mLst_4, mCall_1, mCall_2, mCallF_1, mCallF_2, mCallF_3, mCallF_4, mFor_e, iR1_e, iZ_e, iE_e, iS_e, mLc_e, mLcO_e, mYes_e, gTg_e, bindT_nm, bindT_1, bindT_2, bindT_3, onEnv_s, onInt_i, onBl_b, onSeq_t, onSeq_l, onSeq_f, onZip_t, onZip_l, onEnum_t, onEnum_l, onT_t, onT_f, onSome_s, fAdd_ii, fAdd_tt, fAdd_ll, fAdd_ss, fSub_ii, fMul_ii, fMul_li, fDiv_ii, fMod_ii, fPow_ii, fNeg_i, fLe_ii, fGt_ii, fGe_ii, fLt_ii, fEq_ii, fEq_ss, fEq_bb, gLen_t, gLen_l, gLen_f, gInt_i, gInt_b, gBool_b, gList_t, gList_l, gList_f, gTuple_t, gTuple_l, gSum_t, gSum_l, fIx_t, fIx_l, fIx_f, fSl_t, fSl_l, fSl_f, fRev_t, fRev_l, wipeD_n, wipeD_c, mPN_e, mPS_e, mSl_e, mDct_e, mChain_e, gMax2_ii, fMulO_li, fMulT_e, iR2_e, fEqN_l, mLst_7, mLst_8, mLst_9, mLst_10, mLst_11, mLst_12, mLst_13, mLst_14, mLst_15, mLst_16, mLst_17, mLst_18, mLst_19, mLst_20, mDcx_e, mMeth_e, mMeth0_e, tyM_str, true_and, mLstO_0, mLstO_1, mLstO_2, mLstO_3, mLstO_4, mTup_4, mLstO_5, mLst_5, mTup_5, mLstO_6, mLst_6, mTup_6, gIsi_non_int, gIsi_non_bool, gIsi_non_tuple, gIsi_non_str, gIsi_non_list, fIs_non, gIsi_bl_int, gIsi_bl_bool, gIsi_bl_tuple, gIsi_bl_str, gIsi_bl_list, fIs_bl, gIsi_int_int, gIsi_int_bool, gIsi_int_tuple, gIsi_int_str, gIsi_int_list, fIs_int, gIsi_str_int, gIsi_str_bool, gIsi_str_tuple, gIsi_str_str, gIsi_str_list, fIs_str, gIsi_tup_int, gIsi_tup_bool, gIsi_tup_tuple, gIsi_tup_str, gIsi_tup_list, fIs_tup, gIsi_lst_int, gIsi_lst_bool, gIsi_lst_tuple, gIsi_lst_str, gIsi_lst_list, fIs_lst, gIsi_frz_int, gIsi_frz_bool, gIsi_frz_tuple, gIsi_frz_str, gIsi_frz_list, fIs_frz, gIsi_dct_int, gIsi_dct_bool, gIsi_dct_tuple, gIsi_dct_str, gIsi_dct_list, fIs_dct]
      cases hd : digS w with
      | some i =>
        obtain ⟨s, rfl, _, _, hm⟩ := dig_int hd
        rw [hd] at hq
        refine ⟨s, _, rfl, rfl, ?_⟩
        simp only [decide_eq_true hm, Bool.not_true, mBody_e, startD_e, mNext_e, mSeq_e, mExpr_e, mRet_e, mRetN_e, mIfS_e, mBreak_e, mCont_e, mSet_e, mAsg_e, mPar2_e, mPar3_e, mVar_e, slot_0, slot_s, mC_e, mOp_e, mUn_e, mT_e, mAnd_e, mOr_e, mNot_e, mAndV_e, mOrV_e, mNotV_e, mIf_e, mTup_0, mTup_1, mTup_2, mTup_3, mLst_0, mLst_1, mLst_2, mLst_3, mLst_4, mCall_1, mCall_2, mCallF_1, mCallF_2, mCallF_3, mCallF_4, mFor_e, iR1_e, iZ_e, iE_e, iS_e, mLc_e, mLcO_e, mYes_e, gTg_e, bindT_nm, bindT_1, bindT_2, bindT_3, onEnv_s, onInt_i, onBl_b, onSeq_t, onSeq_l, onSeq_f, onZip_t, onZip_l, onEnum_t, onEnum_l, onT_t, onT_f, onSome_s, fAdd_ii, fAdd_tt, fAdd_ll, fAdd_ss, fSub_ii, fMul_ii, fMul_li, fDiv_ii, fMod_ii, fPow_ii, fNeg_i, fLe_ii, fGt_ii, fGe_ii, fLt_ii, fEq_ii, fEq_ss, fEq_bb, gLen_t, gLen_l, gLen_f, gInt_i, gInt_b, gBool_b, gList_t, gList_l, gList_f, gTuple_t, gTuple_l, gSum_t, gSum_l, fIx_t, fIx_l, fIx_f, fSl_t, fSl_l, fSl_f, fRev_t, fRev_l, wipeD_n, wipeD_c, mPN_e, mPS_e, mSl_e, mDct_e, mChain_e, gMax2_ii, fMulO_li, fMulT_e, iR2_e, fEqN_l, mLst_7, mLst_8, mLst_9, mLst_10, mLst_11, mLst_12, mLst_13, mLst_14, mLst_15, mLst_16, mLst_17, mLst_18, mLst_19, mLst_20, mDcx_e, mMeth_e, mMeth0_e, tyM_str, true_and, mLstO_0, mLstO_1, mLstO_2, mLstO_3, mLstO_4, mTup_4, mLstO_5, mLst_5, mTup_5, mLstO_6, mLst_6, mTup_6, gIsi_non_int, gIsi_non_bool, gIsi_non_tuple, gIsi_non_str, gIsi_non_list, fIs_non, gIsi_bl_int, gIsi_bl_bool, gIsi_bl_tuple, gIsi_bl_str, gIsi_bl_list, fIs_bl, gIsi_int_int, gIsi_int_bool, gIsi_int_tuple, gIsi_int_str, gIsi_int_list, fIs_int, gIsi_str_int, gIsi_str_bool, gIsi_str_tuple, gIsi_str_str, gIsi_str_list, fIs_str, gIsi_tup_int, gIsi_tup_bool, gIsi_tup_tuple, gIsi_tup_str, gIsi_tup_list, fIs_tup, gIsi_lst_int, gIsi_lst_bool, gIsi_lst_tuple, gIsi_lst_str, gIsi_lst_list, fIs_lst, gIsi_frz_int, gIsi_frz_bool, gIsi_frz_tuple, gIsi_frz_str, gIsi_frz_list, fIs_frz, gIsi_dct_int, gIsi_dct_bool, gIsi_dct_tuple, gIsi_dct_str, gIsi_dct_list, fIs_dct]
        exact hq
      | none =>
        obtain ⟨s, rfl, hm⟩ := no_dig hd c
        rw [hd] at hq
        refine ⟨s, _, rfl, rfl, ?_⟩
        simp only [decide_eq_false hm, Bool.not_false, mBody_e, startD_e, mNext_e, mSeq_e, mExpr_e, mRet_e, mRetN_e, mIfS_e, mBreak_e, mCont_e, mSet_e, mAsg_e, mPar2_e, mPar3_e, mVar_e, slot_0, slot_s, mC_e, mOp_e, mUn_e, mT_e, mAnd_e, mOr_e, mNot_e, mAndV_e, mOrV_e, mNotV_e, mIf_e, mTup_0, mTup_1, mTup_2, mTup_3, mLst_0, mLst_1, mLst_2, mLst_3, mLst_4, mCall_1, mCall_2, mCallF_1, mCallF_2, mCallF_3, mCallF_4, mFor_e, iR1_e, iZ_e, iE_e, iS_e, mLc_e, mLcO_e, mYes_e, gTg_e, bindT_nm, bindT_1, bindT_2, bindT_3, onEnv_s, onInt_i, onBl_b, onSeq_t, onSeq_l, onSeq_f, onZip_t, onZip_l, onEnum_t, onEnum_l, onT_t, onT_f, onSome_s, fAdd_ii, fAdd_tt, fAdd_ll, fAdd_ss, fSub_ii, fMul_ii, fMul_li, fDiv_ii, fMod_ii, fPow_ii, fNeg_i, fLe_ii, fGt_ii, fGe_ii, fLt_ii, fEq_ii, fEq_ss, fEq_bb, gLen_t, gLen_l, gLen_f, gInt_i, gInt_b, gBool_b, gList_t, gList_l, gList_f, gTuple_t, gTuple_l, gSum_t, gSum_l, fIx_t, fIx_l, fIx_f, fSl_t, fSl_l, fSl_f, fRev_t, fRev_l, wipeD_n, wipeD_c, mPN_e, mPS_e, mSl_e, mDct_e, mChain_e, gMax2_ii, fMulO_li, fMulT_e, iR2_e, fEqN_l, mLst_7, mLst_8, mLst_9, mLst_10, mLst_11, mLst_12, mLst_13, mLst_14, mLst_15, mLst_16, mLst_17, mLst_18, mLst_19, mLst_20, mDcx_e, mMeth_e, mMeth0_e, tyM_str, true_and, mLstO_0, mLstO_1, mLstO_2, mLstO_3, mLstO_4, mTup_4, mLstO_5, mLst_5, mTup_5, mLstO_6, mLst_6, mTup_6, gIsi_non_int, gIsi_non_bool, gIsi_non_tuple, gIsi_non_str, gIsi_non_list, fIs_non, gIsi_bl_int, gIsi_bl_bool, gIsi_bl_tuple, gIsi_bl_str, gIsi_bl_list, fIs_bl, gIsi_int_int, gIsi_int_bool, gIsi_int_tuple, gIsi_int_str, gIsi_int_list, fIs_int, gIsi_str_int, gIsi_str_bool, gIsi_str_tuple, gIsi_str_str, gIsi_str_list, fIs_str, gIsi_tup_int, gIsi_tup_bool, gIsi_tup_tuple, gIsi_tup_str, gIsi_tup_list, fIs_tup, gIsi_lst_int, gIsi_lst_bool, gIsi_lst_tuple, gIsi_lst_str, gIsi_lst_list, fIs_lst, gIsi_frz_int, gIsi_frz_bool, gIsi_frz_tuple, gIsi_frz_str, gIsi_frz_list, fIs_frz, gIsi_dct_int, gIsi_dct_bool, gIsi_dct_tuple, gIsi_dct_str, gIsi_dct_list, fIs_dct]
        exact hq
    · have c' : ¬ ((w.length : Nat) : Int) = 1 := by omega
      simp only [decide_eq_false c', Bool.not_false, mBody_e, startD_e, mNext_e, mSeq_e, mExpr_e, mRet_e, mRetN_e, mIfS_e, mBreak_e, mCont_e, mSet_e, mAsg_e, mPar2_e, mPar3_e, mVar_e, slot_0, slot_s, mC_e, mOp_e, mUn_e, mT_e, mAnd_e, mOr_e, mNot_e, mAndV_e, mOrV_e, mNotV_e, mIf_e, mTup_0, mTup_1, mTup_2, mTup_3, mLst_0, mLst_1, mLst_2, mLst_3, mLst_4, mCall_1, mCall_2, mCallF_1, mCallF_2, mCallF_3, mCallF_4, mFor_e, iR1_e, iZ_e, iE_e, iS_e, mLc_e, mLcO_e, mYes_e, gTg_e, bindT_nm, bindT_1, bindT_2, bindT_3, onEnv_s, onInt_i, onBl_b, onSeq_t, onSeq_l, onSeq_f, onZip_t, onZip_l, onEnum_t, onEnum_l, onT_t, onT_f, onSome_s, fAdd_ii, fAdd_tt, fAdd_ll, fAdd_ss, fSub_ii, fMul_ii, fMul_li, fDiv_ii, fMod_ii, fPow_ii, fNeg_i, fLe_ii, fGt_ii, fGe_ii, fLt_ii, fEq_ii, fEq_ss, fEq_bb, gLen_t, gLen_l, gLen_f, gInt_i, gInt_b, gBool_b, gList_t, gList_l, gList_f, gTuple_t, gTuple_l, gSum_t, gSum_l, fIx_t, fIx_l, fIx_f, fSl_t, fSl_l, fSl_f, fRev_t, fRev_l, wipeD_n, wipeD_c, mPN_e, mPS_e, mSl_e, mDct_e, mChain_e, gMax2_ii, fMulO_li, fMulT_e, iR2_e, fEqN_l, mLst_7, mLst_8, mLst_9, mLst_10, mLst_11, mLst_12, mLst_13, mLst_14, mLst_15, mLst_16, mLst_17, mLst_18, mLst_19, mLst_20, mDcx_e, mMeth_e, mMeth0_e, tyM_str, true_and, mLstO_0, mLstO_1, mLstO_2, mLstO_3, mLstO_4, mTup_4, mLstO_5, mLst_5, mTup_5, mLstO_6, mLst_6, mTup_6, gIsi_non_int, gIsi_non_bool, gIsi_non_tuple, gIsi_non_str, gIsi_non_list, fIs_non, gIsi_bl_int, gIsi_bl_bool, gIsi_bl_tuple, gIsi_bl_str, gIsi_bl_list, fIs_bl, gIsi_int_int, gIsi_int_bool, gIsi_int_tuple, gIsi_int_str, gIsi_int_list, fIs_int, gIsi_str_int, gIsi_str_bool, gIsi_str_tuple, gIsi_str_str, gIsi_str_list, fIs_str, gIsi_tup_int, gIsi_tup_bool, gIsi_tup_tuple, gIsi_tup_str, gIsi_tup_list, fIs_tup, gIsi_lst_int, gIsi_lst_bool, gIsi_lst_tuple, gIsi_lst_str, gIsi_lst_list, fIs_lst, gIsi_frz_int, gIsi_frz_bool, gIsi_frz_tuple, gIsi_frz_str, gIsi_frz_list, fIs_frz, gIsi_dct_int, gIsi_dct_bool, gIsi_dct_tuple, gIsi_dct_str, gIsi_dct_list, fIs_dct]
      cases hd : digS w with
      | some i =>
        obtain ⟨s, rfl, _⟩ := dig_int hd
        exact absurd rfl c
      | none =>
        rw [hd] at hq
        exact hq
  · simp only [mBody_e, startD_e, mNext_e, mSeq_e, mExpr_e, mRet_e, mRetN_e, mIfS_e, mBreak_e, mCont_e, mSet_e, mAsg_e, mPar2_e, mPar3_e, mVar_e, slot_0, slot_s, mC_e, mOp_e, mUn_e, mT_e, mAnd_e, mOr_e, mNot_e, mAndV_e, mOrV_e, mNotV_e, mIf_e, mTup_0, mTup_1, mTup_2, mTup_3, mLst_0, mLst_1, mLst_2, mLst_3, mLst_4, mCall_1, mCall_2, mCallF_1, mCallF_2, mCallF_3, mCallF_4, mFor_e, iR1_e, iZ_e, iE_e, iS_e, mLc_e, mLcO_e, mYes_e, gTg_e, bindT_nm, bindT_1, bindT_2, bindT_3, onEnv_s, onInt_i, onBl_b, onSeq_t, onSeq_l, onSeq_f, onZip_t, onZip_l, onEnum_t, onEnum_l, onT_t, onT_f, onSome_s, fAdd_ii, fAdd_tt, fAdd_ll, fAdd_ss, fSub_ii, fMul_ii, fMul_li, fDiv_ii, fMod_ii, fPow_ii, fNeg_i, fLe_ii, fGt_ii, fGe_ii, fLt_ii, fEq_ii, fEq_ss, fEq_bb, gLen_t, gLen_l, gLen_f, gInt_i, gInt_b, gBool_b, gList_t, gList_l, gList_f, gTuple_t, gTuple_l, gSum_t, gSum_l, fIx_t, fIx_l, fIx_f, fSl_t, fSl_l, fSl_f, fRev_t, fRev_l, wipeD_n, wipeD_c, mPN_e, mPS_e, mSl_e, mDct_e, mChain_e, gMax2_ii, fMulO_li, fMulT_e, iR2_e, fEqN_l, mLst_7, mLst_8, mLst_9, mLst_10, mLst_11, mLst_12, mLst_13, mLst_14, mLst_15, mLst_16, mLst_17, mLst_18, mLst_19, mLst_20, mDcx_e, mMeth_e, mMeth0_e, tyM_str, true_and, mLstO_0, mLstO_1, mLstO_2, mLstO_3, mLstO_4, mTup_4, mLstO_5, mLst_5, mTup_5, mLstO_6, mLst_6, mTup_6, gIsi_non_int, gIsi_non_bool, gIsi_non_tuple, gIsi_non_str, gIsi_non_list, fIs_non, gIsi_bl_int, gIsi_bl_bool, gIsi_bl_tuple, gIsi_bl_str, gIsi_bl_list, fIs_bl, gIsi_int_int, gIsi_int_bool, gIsi_int_tuple, gIsi_int_str, gIsi_int_list, fIs_int, gIsi_str_int, gIsi_str_bool, gIsi_str_tuple, gIsi_str_str, gIsi_str_list, fIs_str, gIsi_tup_int, gIsi_tup_bool, gIsi_tup_tuple, gIsi_tup_str, gIsi_tup_list, fIs_tup, gIsi_lst_int, gIsi_lst_bool, gIsi_lst_tuple, gIsi_lst_str, gIsi_lst_list, fIs_lst, gIsi_frz_int, gIsi_frz_bool, gIsi_frz_tuple, gIsi_frz_str, gIsi_frz_list, fIs_frz, gIsi_dct_int, gIsi_dct_bool, gIsi_dct_tuple, gIsi_dct_str, gIsi_dct_list, fIs_dct, List.map_cons, List.map_nil, List.length_cons, List.length_nil, List.cons_append, List.nil_append, List.set_cons_zero, List.set_cons_succ, List.replicate_zero, List.replicate_succ]
    exact hq
  · simp only [List.nil_append, mBody_e, startD_e, mNext_e, mSeq_e, mExpr_e, mRet_e, mRetN_e, mIfS_e, mBreak_e, mCont_e, mSet_e, mAsg_e, mPar2_e, mPar3_e, mVar_e, slot_0, slot_s, mC_e, mOp_e, mUn_e, mT_e, mAnd_e, mOr_e, mNot_e, mAndV_e, mOrV_e, mNotV_e, mIf_e, mTup_0, mTup_1, mTup_2, mTup_3, mLst_0, mLst_1, mLst_2, mLst_3, mLst_4, mCall_1, mCall_2, mCallF_1, mCallF_2, mCallF_3, mCallF_4, mFor_e, iR1_e, iZ_e, iE_e, iS_e, mLc_e, mLcO_e, mYes_e, gTg_e, bindT_nm, bindT_1, bindT_2, bindT_3, onEnv_s, onInt_i, onBl_b, onSeq_t, onSeq_l, onSeq_f, onZip_t, onZip_l, onEnum_t, onEnum_l, onT_t, onT_f, onSome_s, fAdd_ii, fAdd_tt, fAdd_ll, fAdd_ss, fSub_ii, fMul_ii, fMul_li, fDiv_ii, fMod_ii, fPow_ii, fNeg_i, fLe_ii, fGt_ii, fGe_ii, fLt_ii, fEq_ii, fEq_ss, fEq_bb, gLen_t, gLen_l, gLen_f, gInt_i, gInt_b, gBool_b, gList_t, gList_l, gList_f, gTuple_t, gTuple_l, gSum_t, gSum_l, fIx_t, fIx_l, fIx_f, fSl_t, fSl_l, fSl_f, fRev_t, fRev_l, wipeD_n, wipeD_c, mPN_e, mPS_e, mSl_e, mDct_e, mChain_e, gMax2_ii, fMulO_li, fMulT_e, iR2_e, fEqN_l, mLst_7, mLst_8, mLst_9, mLst_10, mLst_11, mLst_12, mLst_13, mLst_14, mLst_15, mLst_16, mLst_17, mLst_18, mLst_19, mLst_20, mDcx_e, mMeth_e, mMeth0_e, tyM_str, true_and, mLstO_0, mLstO_1, mLstO_2, mLstO_3, mLstO_4, mTup_4, mLstO_5, mLst_5, mTup_5, mLstO_6, mLst_6, mTup_6, gIsi_non_int, gIsi_non_bool, gIsi_non_tuple, gIsi_non_str, gIsi_non_list, fIs_non, gIsi_bl_int, gIsi_bl_bool, gIsi_bl_tuple, gIsi_bl_str, gIsi_bl_list, fIs_bl, gIsi_int_int, gIsi_int_bool, gIsi_int_tuple, gIsi_int_str, gIsi_int_list, fIs_int, gIsi_str_int, gIsi_str_bool, gIsi_str_tuple, gIsi_str_str, gIsi_str_list, fIs_str, gIsi_tup_int, gIsi_tup_bool, gIsi_tup_tuple, gIsi_tup_str, gIsi_tup_list, fIs_tup, gIsi_lst_int, gIsi_lst_bool, gIsi_lst_tuple, gIsi_lst_str, gIsi_lst_list, fIs_lst, gIsi_frz_int, gIsi_frz_bool, gIsi_frz_tuple, gIsi_frz_str, gIsi_frz_list, fIs_frz, gIsi_dct_int, gIsi_dct_bool, gIsi_dct_tuple, gIsi_dct_str, gIsi_dct_list, fIs_dct]
    have e : ((ws.filter fun w => !(digS w).isSome).map fun w => DV.str w).isEmpty = ws.all fun w => (digS w).isSome := by
      exact filt_allS _ ws
    rw [e]
    cases hc : ws.all fun w => (digS w).isSome with
    | false =>
      have e2 : bagS ws = none := by
        unfold bagS
        rw [hc]
        rfl
      rw [e2] at q
      simp only [Bool.not_false, mBody_e, startD_e, mNext_e, mSeq_e, mExpr_e, mRet_e, mRetN_e, mIfS_e, mBreak_e, mCont_e, mSet_e, mAsg_e, mPar2_e, mPar3_e, mVar_e, slot_0, slot_s, mC_e, mOp_e, mUn_e, mT_e, mAnd_e, mOr_e, mNot_e, mAndV_e, mOrV_e, mNotV_e, mIf_e, mTup_0, mTup_1, mTup_2, mTup_3, mLst_0, mLst_1, mLst_2, mLst_3, mLst_4, mCall_1, mCall_2, mCallF_1, mCallF_2, mCallF_3, mCallF_4, mFor_e, iR1_e, iZ_e, iE_e, iS_e, mLc_e, mLcO_e, mYes_e, gTg_e, bindT_nm, bindT_1, bindT_2, bindT_3, onEnv_s, onInt_i, onBl_b, onSeq_t, onSeq_l, onSeq_f, onZip_t, onZip_l, onEnum_t, onEnum_l, onT_t, onT_f, onSome_s, fAdd_ii, fAdd_tt, fAdd_ll, fAdd_ss, fSub_ii, fMul_ii, fMul_li, fDiv_ii, fMod_ii, fPow_ii, fNeg_i, fLe_ii, fGt_ii, fGe_ii, fLt_ii, fEq_ii, fEq_ss, fEq_bb, gLen_t, gLen_l, gLen_f, gInt_i, gInt_b, gBool_b, gList_t, gList_l, gList_f, gTuple_t, gTuple_l, gSum_t, gSum_l, fIx_t, fIx_l, fIx_f, fSl_t, fSl_l, fSl_f, fRev_t, fRev_l, wipeD_n, wipeD_c, mPN_e, mPS_e, mSl_e, mDct_e, mChain_e, gMax2_ii, fMulO_li, fMulT_e, iR2_e, fEqN_l, mLst_7, mLst_8, mLst_9, mLst_10, mLst_11, mLst_12, mLst_13, mLst_14, mLst_15, mLst_16, mLst_17, mLst_18, mLst_19, mLst_20, mDcx_e, mMeth_e, mMeth0_e, tyM_str, true_and, mLstO_0, mLstO_1, mLstO_2, mLstO_3, mLstO_4, mTup_4, mLstO_5, mLst_5, mTup_5, mLstO_6, mLst_6, mTup_6, gIsi_non_int, gIsi_non_bool, gIsi_non_tuple, gIsi_non_str, gIsi_non_list, fIs_non, gIsi_bl_int, gIsi_bl_bool, gIsi_bl_tuple, gIsi_bl_str, gIsi_bl_list, fIs_bl, gIsi_int_int, gIsi_int_bool, gIsi_int_tuple, gIsi_int_str, gIsi_int_list, fIs_int, gIsi_str_int, gIsi_str_bool, gIsi_str_tuple, gIsi_str_str, gIsi_str_list, fIs_str, gIsi_tup_int, gIsi_tup_bool, gIsi_tup_tuple, gIsi_tup_str, gIsi_tup_list, fIs_tup, gIsi_lst_int, gIsi_lst_bool, gIsi_lst_tuple, gIsi_lst_str, gIsi_lst_list, fIs_lst, gIsi_frz_int, gIsi_frz_bool, gIsi_frz_tuple, gIsi_frz_str, gIsi_frz_list, fIs_frz, gIsi_dct_int, gIsi_dct_bool, gIsi_dct_tuple, gIsi_dct_str, gIsi_dct_list, fIs_dct]
      exact q
    | true =>
      have e2 : bagS ws = if (bagL ws).all (fun x => decide (x ≤ 3)) && decide ((bagL ws).sum ≤ 4) then some (bagL ws) else none := by
        unfold bagS
        rw [hc]
        rfl
      rw [e2] at q
      simp only [Bool.not_true, mBody_e, startD_e, mNext_e, mSeq_e, mExpr_e, mRet_e, mRetN_e, mIfS_e, mBreak_e, mCont_e, mSet_e, mAsg_e, mPar2_e, mPar3_e, mVar_e, slot_0, slot_s, mC_e, mOp_e, mUn_e, mT_e, mAnd_e, mOr_e, mNot_e, mAndV_e, mOrV_e, mNotV_e, mIf_e, mTup_0, mTup_1, mTup_2, mTup_3, mLst_0, mLst_1, mLst_2, mLst_3, mLst_4, mCall_1, mCall_2, mCallF_1, mCallF_2, mCallF_3, mCallF_4, mFor_e, iR1_e, iZ_e, iE_e, iS_e, mLc_e, mLcO_e, mYes_e, gTg_e, bindT_nm, bindT_1, bindT_2, bindT_3, onEnv_s, onInt_i, onBl_b, onSeq_t, onSeq_l, onSeq_f, onZip_t, onZip_l, onEnum_t, onEnum_l, onT_t, onT_f, onSome_s, fAdd_ii, fAdd_tt, fAdd_ll, fAdd_ss, fSub_ii, fMul_ii, fMul_li, fDiv_ii, fMod_ii, fPow_ii, fNeg_i, fLe_ii, fGt_ii, fGe_ii, fLt_ii, fEq_ii, fEq_ss, fEq_bb, gLen_t, gLen_l, gLen_f, gInt_i, gInt_b, gBool_b, gList_t, gList_l, gList_f, gTuple_t, gTuple_l, gSum_t, gSum_l, fIx_t, fIx_l, fIx_f, fSl_t, fSl_l, fSl_f, fRev_t, fRev_l, wipeD_n, wipeD_c, mPN_e, mPS_e, mSl_e, mDct_e, mChain_e, gMax2_ii, fMulO_li, fMulT_e, iR2_e, fEqN_l, mLst_7, mLst_8, mLst_9, mLst_10, mLst_11, mLst_12, mLst_13, mLst_14, mLst_15, mLst_16, mLst_17, mLst_18, mLst_19, mLst_20, mDcx_e, mMeth_e, mMeth0_e, tyM_str, true_and, mLstO_0, mLstO_1, mLstO_2, mLstO_3, mLstO_4, mTup_4, mLstO_5, mLst_5, mTup_5, mLstO_6, mLst_6, mTup_6, gIsi_non_int, gIsi_non_bool, gIsi_non_tuple, gIsi_non_str, gIsi_non_list, fIs_non, gIsi_bl_int, gIsi_bl_bool, gIsi_bl_tuple, gIsi_bl_str, gIsi_bl_list, fIs_bl, gIsi_int_int, gIsi_int_bool, gIsi_int_tuple, gIsi_int_str, gIsi_int_list, fIs_int, gIsi_str_int, gIsi_str_bool, gIsi_str_tuple, gIsi_str_str, gIsi_str_list, fIs_str, gIsi_tup_int, gIsi_tup_bool, gIsi_tup_tuple, gIsi_tup_str, gIsi_tup_list, fIs_tup, gIsi_lst_int, gIsi_lst_bool, gIsi_lst_tuple, gIsi_lst_str, gIsi_lst_list, fIs_lst, gIsi_frz_int, gIsi_frz_bool, gIsi_frz_tuple, gIsi_frz_str, gIsi_frz_list, fIs_frz, gIsi_dct_int, gIsi_dct_bool, gIsi_dct_tuple, gIsi_dct_str, gIsi_dct_list, fIs_dct, app3 r_read_bag_2_e, List.map_cons, List.map_nil, List.length_cons, List.length_nil, List.cons_append, List.nil_append, List.set_cons_zero, List.set_cons_succ, List.replicate_zero, List.replicate_succ]
      refine lc_m (fun w : Str => DV.str w) (fun w => DV.int ((digS w).getD 0)) ws hl (fun w hw => ⟨_, bindT_nm, fun Qc hq => ?_⟩) ?_
      · have hs := List.all_eq_true.mp hc w hw
        obtain ⟨i, hi⟩ := Option.isSome_iff_exists.mp hs
        obtain ⟨s, e3, e4, e5, _⟩ := dig_int hi
        simp only [mBody_e, startD_e, mNext_e, mSeq_e, mExpr_e, mRet_e, mRetN_e, mIfS_e, mBreak_e, mCont_e, mSet_e, mAsg_e, mPar2_e, mPar3_e, mVar_e, slot_0, slot_s, mC_e, mOp_e, mUn_e, mT_e, mAnd_e, mOr_e, mNot_e, mAndV_e, mOrV_e, mNotV_e, mIf_e, mTup_0, mTup_1, mTup_2, mTup_3, mLst_0, mLst_1, mLst_2, mLst_3, mLst_4, mCall_1, mCall_2, mCallF_1, mCallF_2, mCallF_3, mCallF_4, mFor_e, iR1_e, iZ_e, iE_e, iS_e, mLc_e, mLcO_e, mYes_e, gTg_e, bindT_nm, bindT_1, bindT_2, bindT_3, onEnv_s, onInt_i, onBl_b, onSeq_t, onSeq_l, onSeq_f, onZip_t, onZip_l, onEnum_t, onEnum_l, onT_t, onT_f, onSome_s, fAdd_ii, fAdd_tt, fAdd_ll, fAdd_ss, fSub_ii, fMul_ii, fMul_li, fDiv_ii, fMod_ii, fPow_ii, fNeg_i, fLe_ii, fGt_ii, fGe_ii, fLt_ii, fEq_ii, fEq_ss, fEq_bb, gLen_t, gLen_l, gLen_f, gInt_i, gInt_b, gBool_b, gList_t, gList_l, gList_f, gTuple_t, gTuple_l, gSum_t, gSum_l, fIx_t, fIx_l, fIx_f, fSl_t, fSl_l, fSl_f, fRev_t, fRev_l, wipeD_n, wipeD_c, mPN_e, mPS_e, mSl_e, mDct_e, mChain_e, gMax2_ii, fMulO_li, fMulT_e, iR2_e, fEqN_l, mLst_7, mLst_8, mLst_9, mLst_10, mLst_11, mLst_12, mLst_13, mLst_14, mLst_15, mLst_16, mLst_17, mLst_18, mLst_19, mLst_20, mDcx_e, mMeth_e, mMeth0_e, tyM_str, true_and, mLstO_0, mLstO_1, mLstO_2, mLstO_3, mLstO_4, mTup_4, mLstO_5, mLst_5, mTup_5, mLstO_6, mLst_6, mTup_6, gIsi_non_int, gIsi_non_bool, gIsi_non_tuple, gIsi_non_str, gIsi_non_list, fIs_non, gIsi_bl_int, gIsi_bl_bool, gIsi_bl_tuple, gIsi_bl_str, gIsi_bl_list, fIs_bl, gIsi_int_int, gIsi_int_bool, gIsi_int_tuple, gIsi_int_str, gIsi_int_list, fIs_int, gIsi_str_int, gIsi_str_bool, gIsi_str_tuple, gIsi_str_str, gIsi_str_list, fIs_str, gIsi_tup_int, gIsi_tup_bool, gIsi_tup_tuple, gIsi_tup_str, gIsi_tup_list, fIs_tup, gIsi_lst_int, gIsi_lst_bool, gIsi_lst_tuple, gIsi_lst_str, gIsi_lst_list, fIs_lst, gIsi_frz_int, gIsi_frz_bool, gIsi_frz_tuple, gIsi_frz_str, gIsi_frz_list, fIs_frz, gIsi_dct_int, gIsi_dct_bool, gIsi_dct_tuple, gIsi_dct_str, gIsi_dct_list, fIs_dct, List.map_cons, List.map_nil, List.length_cons, List.length_nil, List.cons_append, List.nil_append, List.set_cons_zero, List.set_cons_succ, List.replicate_zero, List.replicate_succ]
        rw [hi] at hq
        exact ⟨w, i, rfl, e4, e5, hq⟩
      · have e3 : ws.map (fun w => DV.int ((digS w).getD 0)) = intsV (bagL ws) := by
          unfold intsV bagL
          rw [List.map_map]
          rfl
        rw [e3]
        simp only [app3 r_read_bag_1_e, mBody_e, startD_e, mNext_e, mSeq_e, mExpr_e, mRet_e, mRetN_e, mIfS_e, mBreak_e, mCont_e, mSet_e, mAsg_e, mPar2_e, mPar3_e, mVar_e, slot_0, slot_s, mC_e, mOp_e, mUn_e, mT_e, mAnd_e, mOr_e, mNot_e, mAndV_e, mOrV_e, mNotV_e, mIf_e, mTup_0, mTup_1, mTup_2, mTup_3, mLst_0, mLst_1, mLst_2, mLst_3, mLst_4, mCall_1, mCall_2, mCallF_1, mCallF_2, mCallF_3, mCallF_4, mFor_e, iR1_e, iZ_e, iE_e, iS_e, mLc_e, mLcO_e, mYes_e, gTg_e, bindT_nm, bindT_1, bindT_2, bindT_3, onEnv_s, onInt_i, onBl_b, onSeq_t, onSeq_l, onSeq_f, onZip_t, onZip_l, onEnum_t, onEnum_l, onT_t, onT_f, onSome_s, fAdd_ii, fAdd_tt, fAdd_ll, fAdd_ss, fSub_ii, fMul_ii, fMul_li, fDiv_ii, fMod_ii, fPow_ii, fNeg_i, fLe_ii, fGt_ii, fGe_ii, fLt_ii, fEq_ii, fEq_ss, fEq_bb, gLen_t, gLen_l, gLen_f, gInt_i, gInt_b, gBool_b, gList_t, gList_l, gList_f, gTuple_t, gTuple_l, gSum_t, gSum_l, fIx_t, fIx_l, fIx_f, fSl_t, fSl_l, fSl_f, fRev_t, fRev_l, wipeD_n, wipeD_c, mPN_e, mPS_e, mSl_e, mDct_e, mChain_e, gMax2_ii, fMulO_li, fMulT_e, iR2_e, fEqN_l, mLst_7, mLst_8, mLst_9, mLst_10, mLst_11, mLst_12, mLst_13, mLst_14, mLst_15, mLst_16, mLst_17, mLst_18, mLst_19, mLst_20, mDcx_e, mMeth_e, mMeth0_e, tyM_str, true_and, mLstO_0, mLstO_1, mLstO_2, mLstO_3, mLstO_4, mTup_4, mLstO_5, mLst_5, mTup_5, mLstO_6, mLst_6, mTup_6, gIsi_non_int, gIsi_non_bool, gIsi_non_tuple, gIsi_non_str, gIsi_non_list, fIs_non, gIsi_bl_int, gIsi_bl_bool, gIsi_bl_tuple, gIsi_bl_str, gIsi_bl_list, fIs_bl, gIsi_int_int, gIsi_int_bool, gIsi_int_tuple, gIsi_int_str, gIsi_int_list, fIs_int, gIsi_str_int, gIsi_str_bool, gIsi_str_tuple, gIsi_str_str, gIsi_str_list, fIs_str, gIsi_tup_int, gIsi_tup_bool, gIsi_tup_tuple, gIsi_tup_str, gIsi_tup_list, fIs_tup, gIsi_lst_int, gIsi_lst_bool, gIsi_lst_tuple, gIsi_lst_str, gIsi_lst_list, fIs_lst, gIsi_frz_int, gIsi_frz_bool, gIsi_frz_tuple, gIsi_frz_str, gIsi_frz_list, fIs_frz, gIsi_dct_int, gIsi_dct_bool, gIsi_dct_tuple, gIsi_dct_str, gIsi_dct_list, fIs_dct, List.map_cons, List.map_nil, List.length_cons, List.length_nil, List.cons_append, List.nil_append, List.set_cons_zero, List.set_cons_succ, List.replicate_zero, List.replicate_succ]
        refine ⟨bagL ws, rfl, by
          have : 0 < ws.length := List.length_pos_iff.mpr h0
          simpa [bagL] using this, fun m h1 h2 => ?_⟩
        rw [all_le_max h1 h2] at q
        simp only [mBody_e, startD_e, mNext_e, mSeq_e, mExpr_e, mRet_e, mRetN_e, mIfS_e, mBreak_e, mCont_e, mSet_e, mAsg_e, mPar2_e, mPar3_e, mVar_e, slot_0, slot_s, mC_e, mOp_e, mUn_e, mT_e, mAnd_e, mOr_e, mNot_e, mAndV_e, mOrV_e, mNotV_e, mIf_e, mTup_0, mTup_1, mTup_2, mTup_3, mLst_0, mLst_1, mLst_2, mLst_3, mLst_4, mCall_1, mCall_2, mCallF_1, mCallF_2, mCallF_3, mCallF_4, mFor_e, iR1_e, iZ_e, iE_e, iS_e, mLc_e, mLcO_e, mYes_e, gTg_e, bindT_nm, bindT_1, bindT_2, bindT_3, onEnv_s, onInt_i, onBl_b, onSeq_t, onSeq_l, onSeq_f, onZip_t, onZip_l, onEnum_t, onEnum_l, onT_t, onT_f, onSome_s, fAdd_ii, fAdd_tt, fAdd_ll, fAdd_ss, fSub_ii, fMul_ii, fMul_li, fDiv_ii, fMod_ii, fPow_ii, fNeg_i, fLe_ii, fGt_ii, fGe_ii, fLt_ii, fEq_ii, fEq_ss, fEq_bb, gLen_t, gLen_l, gLen_f, gInt_i, gInt_b, gBool_b, gList_t, gList_l, gList_f, gTuple_t, gTuple_l, gSum_t, gSum_l, fIx_t, fIx_l, fIx_f, fSl_t, fSl_l, fSl_f, fRev_t, fRev_l, wipeD_n, wipeD_c, mPN_e, mPS_e, mSl_e, mDct_e, mChain_e, gMax2_ii, fMulO_li, fMulT_e, iR2_e, fEqN_l, mLst_7, mLst_8, mLst_9, mLst_10, mLst_11, mLst_12, mLst_13, mLst_14, mLst_15, mLst_16, mLst_17, mLst_18, mLst_19, mLst_20, mDcx_e, mMeth_e, mMeth0_e, tyM_str, true_and, mLstO_0, mLstO_1, mLstO_2, mLstO_3, mLstO_4, mTup_4, mLstO_5, mLst_5, mTup_5, mLstO_6, mLst_6, mTup_6, gIsi_non_int, gIsi_non_bool, gIsi_non_tuple, gIsi_non_str, gIsi_non_list, fIs_non, gIsi_bl_int, gIsi_bl_bool, gIsi_bl_tuple, gIsi_bl_str, gIsi_bl_list, fIs_bl, gIsi_int_int, gIsi_int_bool, gIsi_int_tuple, gIsi_int_str, gIsi_int_list, fIs_int, gIsi_str_int, gIsi_str_bool, gIsi_str_tuple, gIsi_str_str, gIsi_str_list, fIs_str, gIsi_tup_int, gIsi_tup_bool, gIsi_tup_tuple, gIsi_tup_str, gIsi_tup_list, fIs_tup, gIsi_lst_int, gIsi_lst_bool, gIsi_lst_tuple, gIsi_lst_str, gIsi_lst_list, fIs_lst, gIsi_frz_int, gIsi_frz_bool, gIsi_frz_tuple, gIsi_frz_str, gIsi_frz_list, fIs_frz, gIsi_dct_int, gIsi_dct_bool, gIsi_dct_tuple, gIsi_dct_str, gIsi_dct_list, fIs_dct]
        cases c1 : decide (m ≤ 3) with
        | false =>
          rw [c1] at q
          simp only [mBody_e, startD_e, mNext_e, mSeq_e, mExpr_e, mRet_e, mRetN_e, mIfS_e, mBreak_e, mCont_e, mSet_e, mAsg_e, mPar2_e, mPar3_e, mVar_e, slot_0, slot_s, mC_e, mOp_e, mUn_e, mT_e, mAnd_e, mOr_e, mNot_e, mAndV_e, mOrV_e, mNotV_e, mIf_e, mTup_0, mTup_1, mTup_2, mTup_3, mLst_0, mLst_1, mLst_2, mLst_3, mLst_4, mCall_1, mCall_2, mCallF_1, mCallF_2, mCallF_3, mCallF_4, mFor_e, iR1_e, iZ_e, iE_e, iS_e, mLc_e, mLcO_e, mYes_e, gTg_e, bindT_nm, bindT_1, bindT_2, bindT_3, onEnv_s, onInt_i, onBl_b, onSeq_t, onSeq_l, onSeq_f, onZip_t, onZip_l, onEnum_t, onEnum_l, onT_t, onT_f, onSome_s, fAdd_ii, fAdd_tt, fAdd_ll, fAdd_ss, fSub_ii, fMul_ii, fMul_li, fDiv_ii, fMod_ii, fPow_ii, fNeg_i, fLe_ii, fGt_ii, fGe_ii, fLt_ii, fEq_ii, fEq_ss, fEq_bb, gLen_t, gLen_l, gLen_f, gInt_i, gInt_b, gBool_b, gList_t, gList_l, gList_f, gTuple_t, gTuple_l, gSum_t, gSum_l, fIx_t, fIx_l, fIx_f, fSl_t, fSl_l, fSl_f, fRev_t, fRev_l, wipeD_n, wipeD_c, mPN_e, mPS_e, mSl_e, mDct_e, mChain_e, gMax2_ii, fMulO_li, fMulT_e, iR2_e, fEqN_l, mLst_7, mLst_8, mLst_9, mLst_10, mLst_11, mLst_12, mLst_13, mLst_14, mLst_15, mLst_16, mLst_17, mLst_18, mLst_19, mLst_20, mDcx_e, mMeth_e, mMeth0_e, tyM_str, true_and, mLstO_0, mLstO_1, mLstO_2, mLstO_3, mLstO_4, mTup_4, mLstO_5, mLst_5, mTup_5, mLstO_6, mLst_6, mTup_6, gIsi_non_int, gIsi_non_bool, gIsi_non_tuple, gIsi_non_str, gIsi_non_list, fIs_non, gIsi_bl_int, gIsi_bl_bool, gIsi_bl_tuple, gIsi_bl_str, gIsi_bl_list, fIs_bl, gIsi_int_int, gIsi_int_bool, gIsi_int_tuple, gIsi_int_str, gIsi_int_list, fIs_int, gIsi_str_int, gIsi_str_bool, gIsi_str_tuple, gIsi_str_str, gIsi_str_list, fIs_str, gIsi_tup_int, gIsi_tup_bool, gIsi_tup_tuple, gIsi_tup_str, gIsi_tup_list, fIs_tup, gIsi_lst_int, gIsi_lst_bool, gIsi_lst_tuple, gIsi_lst_str, gIsi_lst_list, fIs_lst, gIsi_frz_int, gIsi_frz_bool, gIsi_frz_tuple, gIsi_frz_str, gIsi_frz_list, fIs_frz, gIsi_dct_int, gIsi_dct_bool, gIsi_dct_tuple, gIsi_dct_str, gIsi_dct_list, fIs_dct]
          exact q
        | true =>
          rw [c1, Bool.true_and] at q
          simp only [mBody_e, startD_e, mNext_e, mSeq_e, mExpr_e, mRet_e, mRetN_e, mIfS_e, mBreak_e, mCont_e, mSet_e, mAsg_e, mPar2_e, mPar3_e, mVar_e, slot_0, slot_s, mC_e, mOp_e, mUn_e, mT_e, mAnd_e, mOr_e, mNot_e, mAndV_e, mOrV_e, mNotV_e, mIf_e, mTup_0, mTup_1, mTup_2, mTup_3, mLst_0, mLst_1, mLst_2, mLst_3, mLst_4, mCall_1, mCall_2, mCallF_1, mCallF_2, mCallF_3, mCallF_4, mFor_e, iR1_e, iZ_e, iE_e, iS_e, mLc_e, mLcO_e, mYes_e, gTg_e, bindT_nm, bindT_1, bindT_2, bindT_3, onEnv_s, onInt_i, onBl_b, onSeq_t, onSeq_l, onSeq_f, onZip_t, onZip_l, onEnum_t, onEnum_l, onT_t, onT_f, onSome_s, fAdd_ii, fAdd_tt, fAdd_ll, fAdd_ss, fSub_ii, fMul_ii, fMul_li, fDiv_ii, fMod_ii, fPow_ii, fNeg_i, fLe_ii, fGt_ii, fGe_ii, fLt_ii, fEq_ii, fEq_ss, fEq_bb, gLen_t, gLen_l, gLen_f, gInt_i, gInt_b, gBool_b, gList_t, gList_l, gList_f, gTuple_t, gTuple_l, gSum_t, gSum_l, fIx_t, fIx_l, fIx_f, fSl_t, fSl_l, fSl_f, fRev_t, fRev_l, wipeD_n, wipeD_c, mPN_e, mPS_e, mSl_e, mDct_e, mChain_e, gMax2_ii, fMulO_li, fMulT_e, iR2_e, fEqN_l, mLst_7, mLst_8, mLst_9, mLst_10, mLst_11, mLst_12, mLst_13, mLst_14, mLst_15, mLst_16, mLst_17, mLst_18, mLst_19, mLst_20, mDcx_e, mMeth_e, mMeth0_e, tyM_str, true_and, mLstO_0, mLstO_1, mLstO_2, mLstO_3, mLstO_4, mTup_4, mLstO_5, mLst_5, mTup_5, mLstO_6, mLst_6, mTup_6, gIsi_non_int, gIsi_non_bool, gIsi_non_tuple, gIsi_non_str, gIsi_non_list, fIs_non, gIsi_bl_int, gIsi_bl_bool, gIsi_bl_tuple, gIsi_bl_str, gIsi_bl_list, fIs_bl, gIsi_int_int, gIsi_int_bool, gIsi_int_tuple, gIsi_int_str, gIsi_int_list, fIs_int, gIsi_str_int, gIsi_str_bool, gIsi_str_tuple, gIsi_str_str, gIsi_str_list, fIs_str, gIsi_tup_int, gIsi_tup_bool, gIsi_tup_tuple, gIsi_tup_str, gIsi_tup_list, fIs_tup, gIsi_lst_int, gIsi_lst_bool, gIsi_lst_tuple, gIsi_lst_str, gIsi_lst_list, fIs_lst, gIsi_frz_int, gIsi_frz_bool, gIsi_frz_tuple, gIsi_frz_str, gIsi_frz_list, fIs_frz, gIsi_dct_int, gIsi_dct_bool, gIsi_dct_tuple, gIsi_dct_str, gIsi_dct_list, fIs_dct]
          cases c2 : decide ((bagL ws).sum ≤ 4) with
          | false =>
            rw [c2] at q
            simp only [mBody_e, startD_e, mNext_e, mSeq_e, mExpr_e, mRet_e, mRetN_e, mIfS_e, mBreak_e, mCont_e, mSet_e, mAsg_e, mPar2_e, mPar3_e, mVar_e, slot_0, slot_s, mC_e, mOp_e, mUn_e, mT_e, mAnd_e, mOr_e, mNot_e, mAndV_e, mOrV_e, mNotV_e, mIf_e, mTup_0, mTup_1, mTup_2, mTup_3, mLst_0, mLst_1, mLst_2, mLst_3, mLst_4, mCall_1, mCall_2, mCallF_1, mCallF_2, mCallF_3, mCallF_4, mFor_e, iR1_e, iZ_e, iE_e, iS_e, mLc_e, mLcO_e, mYes_e, gTg_e, bindT_nm, bindT_1, bindT_2, bindT_3, onEnv_s, onInt_i, onBl_b, onSeq_t, onSeq_l, onSeq_f, onZip_t, onZip_l, onEnum_t, onEnum_l, onT_t, onT_f, onSome_s, fAdd_ii, fAdd_tt, fAdd_ll, fAdd_ss, fSub_ii, fMul_ii, fMul_li, fDiv_ii, fMod_ii, fPow_ii, fNeg_i, fLe_ii, fGt_ii, fGe_ii, fLt_ii, fEq_ii, fEq_ss, fEq_bb, gLen_t, gLen_l, gLen_f, gInt_i, gInt_b, gBool_b, gList_t, gList_l, gList_f, gTuple_t, gTuple_l, gSum_t, gSum_l, fIx_t, fIx_l, fIx_f, fSl_t, fSl_l, fSl_f, fRev_t, fRev_l, wipeD_n, wipeD_c, mPN_e, mPS_e, mSl_e, mDct_e, mChain_e, gMax2_ii, fMulO_li, fMulT_e, iR2_e, fEqN_l, mLst_7, mLst_8, mLst_9, mLst_10, mLst_11, mLst_12, mLst_13, mLst_14, mLst_15, mLst_16, mLst_17, mLst_18, mLst_19, mLst_20, mDcx_e, mMeth_e, mMeth0_e, tyM_str, true_and, mLstO_0, mLstO_1, mLstO_2, mLstO_3, mLstO_4, mTup_4, mLstO_5, mLst_5, mTup_5, mLstO_6, mLst_6, mTup_6, gIsi_non_int, gIsi_non_bool, gIsi_non_tuple, gIsi_non_str, gIsi_non_list, fIs_non, gIsi_bl_int, gIsi_bl_bool, gIsi_bl_tuple, gIsi_bl_str, gIsi_bl_list, fIs_bl, gIsi_int_int, gIsi_int_bool, gIsi_int_tuple, gIsi_int_str, gIsi_int_list, fIs_int, gIsi_str_int, gIsi_str_bool, gIsi_str_tuple, gIsi_str_str, gIsi_str_list, fIs_str, gIsi_tup_int, gIsi_tup_bool, gIsi_tup_tuple, gIsi_tup_str, gIsi_tup_list, fIs_tup, gIsi_lst_int, gIsi_lst_bool, gIsi_lst_tuple, gIsi_lst_str, gIsi_lst_list, fIs_lst, gIsi_frz_int, gIsi_frz_bool, gIsi_frz_tuple, gIsi_frz_str, gIsi_frz_list, fIs_frz, gIsi_dct_int, gIsi_dct_bool, gIsi_dct_tuple, gIsi_dct_str, gIsi_dct_list, fIs_dct]
            exact q
          | true =>
            rw [c2] at q
            simp only [mBody_e, startD_e, mNext_e, mSeq_e, mExpr_e, mRet_e, mRetN_e, mIfS_e, mBreak_e, mCont_e, mSet_e, mAsg_e, mPar2_e, mPar3_e, mVar_e, slot_0, slot_s, mC_e, mOp_e, mUn_e, mT_e, mAnd_e, mOr_e, mNot_e, mAndV_e, mOrV_e, mNotV_e, mIf_e, mTup_0, mTup_1, mTup_2, mTup_3, mLst_0, mLst_1, mLst_2, mLst_3, mLst_4, mCall_1, mCall_2, mCallF_1, mCallF_2, mCallF_3, mCallF_4, mFor_e, iR1_e, iZ_e, iE_e, iS_e, mLc_e, mLcO_e, mYes_e, gTg_e, bindT_nm, bindT_1, bindT_2, bindT_3, onEnv_s, onInt_i, onBl_b, onSeq_t, onSeq_l, onSeq_f, onZip_t, onZip_l, onEnum_t, onEnum_l, onT_t, onT_f, onSome_s, fAdd_ii, fAdd_tt, fAdd_ll, fAdd_ss, fSub_ii, fMul_ii, fMul_li, fDiv_ii, fMod_ii, fPow_ii, fNeg_i, fLe_ii, fGt_ii, fGe_ii, fLt_ii, fEq_ii, fEq_ss, fEq_bb, gLen_t, gLen_l, gLen_f, gInt_i, gInt_b, gBool_b, gList_t, gList_l, gList_f, gTuple_t, gTuple_l, gSum_t, gSum_l, fIx_t, fIx_l, fIx_f, fSl_t, fSl_l, fSl_f, fRev_t, fRev_l, wipeD_n, wipeD_c, mPN_e, mPS_e, mSl_e, mDct_e, mChain_e, gMax2_ii, fMulO_li, fMulT_e, iR2_e, fEqN_l, mLst_7, mLst_8, mLst_9, mLst_10, mLst_11, mLst_12, mLst_13, mLst_14, mLst_15, mLst_16, mLst_17, mLst_18, mLst_19, mLst_20, mDcx_e, mMeth_e, mMeth0_e, tyM_str, true_and, mLstO_0, mLstO_1, mLstO_2, mLstO_3, mLstO_4, mTup_4, mLstO_5, mLst_5, mTup_5, mLstO_6, mLst_6, mTup_6, gIsi_non_int, gIsi_non_bool, gIsi_non_tuple, gIsi_non_str, gIsi_non_list, fIs_non, gIsi_bl_int, gIsi_bl_bool, gIsi_bl_tuple, gIsi_bl_str, gIsi_bl_list, fIs_bl, gIsi_int_int, gIsi_int_bool, gIsi_int_tuple, gIsi_int_str, gIsi_int_list, fIs_int, gIsi_str_int, gIsi_str_bool, gIsi_str_tuple, gIsi_str_str, gIsi_str_list, fIs_str, gIsi_tup_int, gIsi_tup_bool, gIsi_tup_tuple, gIsi_tup_str, gIsi_tup_list, fIs_tup, gIsi_lst_int, gIsi_lst_bool, gIsi_lst_tuple, gIsi_lst_str, gIsi_lst_list, fIs_lst, gIsi_frz_int, gIsi_frz_bool, gIsi_frz_tuple, gIsi_frz_str, gIsi_frz_list, fIs_frz, gIsi_dct_int, gIsi_dct_bool, gIsi_dct_tuple, gIsi_dct_str, gIsi_dct_list, fIs_dct]
            exact q
theorem cut_take {ds : List DV} {g : Nat} : DL.cutD ds none (some (g : Int)) = ds.take g := by
  unfold DL.cutD
  have h1 : HT.sIx ds.length 0 none = 0 := rfl
  rw [h1, HT.sIx_nat, List.drop_zero, Nat.sub_zero]
  by_cases h : g ≤ ds.length
  · rw [Nat.min_eq_left h]
  · rw [Nat.min_eq_right (by omega), List.take_length, List.take_of_length_le (by omega)]
theorem cut_drop {ds : List DV} {k : Nat} : DL.cutD ds (some (k : Int)) none = ds.drop k := by
  unfold DL.cutD
  have h1 : HT.sIx ds.length ds.length none = ds.length := rfl
  rw [h1, HT.sIx_nat]
  by_cases h : k ≤ ds.length
  · rw [Nat.min_eq_left h, List.take_of_length_le (by rw [List.length_drop]; omega)]
  · rw [Nat.min_eq_right (by omega), List.drop_length, List.drop_of_length_le (by omega)]
    simp
def optR : Option Rl → DV
  | some r => rV r
  | none => .non
def tradeS (line : Str) (g : Nat) : Option Rl :=
  if (Txt.split line (Str.ofString " ")).length = 2 * g + 1 ∧ (Txt.split line (Str.ofString " "))[g]? = some (Str.ofString "=") then
    (match bagS ((Txt.split line (Str.ofString " ")).take g), bagS ((Txt.split line (Str.ofString " ")).drop (g + 1)) with
    | some a, some b => some (a, b)
    | _, _ => none)
  else none
theorem strsV_len (ws : List Str) : (strsV ws).length = ws.length := List.length_map ..
theorem read_trade_ok {line : Str} {g : Nat} {S : Store} {Q : MK DV} {E : MX} (hg : 0 < g) (hg4 : g ≤ 4) (hl : line.length + 2 ≤ 16777216) (q : Q (optR (tradeS line g)) S) : m_read_trade [.str line, .int g] S Q E := by
  simp only [app4 m_read_trade_e, app3 b_read_trade_e, mBody_e, startD_e, mNext_e, mSeq_e, mExpr_e, mRet_e, mRetN_e, mIfS_e, mBreak_e, mCont_e, mSet_e, mAsg_e, mPar2_e, mPar3_e, mVar_e, slot_0, slot_s, mC_e, mOp_e, mUn_e, mT_e, mAnd_e, mOr_e, mNot_e, mAndV_e, mOrV_e, mNotV_e, mIf_e, mTup_0, mTup_1, mTup_2, mTup_3, mLst_0, mLst_1, mLst_2, mLst_3, mLst_4, mCall_1, mCall_2, mCallF_1, mCallF_2, mCallF_3, mCallF_4, mFor_e, iR1_e, iZ_e, iE_e, iS_e, mLc_e, mLcO_e, mYes_e, gTg_e, bindT_nm, bindT_1, bindT_2, bindT_3, onEnv_s, onInt_i, onBl_b, onSeq_t, onSeq_l, onSeq_f, onZip_t, onZip_l, onEnum_t, onEnum_l, onT_t, onT_f, onSome_s, fAdd_ii, fAdd_tt, fAdd_ll, fAdd_ss, fSub_ii, fMul_ii, fMul_li, fDiv_ii, fMod_ii, fPow_ii, fNeg_i, fLe_ii, fGt_ii, fGe_ii, fLt_ii, fEq_ii, fEq_ss, fEq_bb, gLen_t, gLen_l, gLen_f, gInt_i, gInt_b, gBool_b, gList_t, gList_l, gList_f, gTuple_t, gTuple_l, gSum_t, gSum_l, fIx_t, fIx_l, fIx_f, fSl_t, fSl_l, fSl_f, fRev_t, fRev_l, wipeD_n, wipeD_c, mPN_e, mPS_e, mSl_e, mDct_e, mChain_e, gMax2_ii, fMulO_li, fMulT_e, iR2_e, fEqN_l, mLst_7, mLst_8, mLst_9, mLst_10, mLst_11, mLst_12, mLst_13, mLst_14, mLst_15, mLst_16, mLst_17, mLst_18, mLst_19, mLst_20, mDcx_e, mMeth_e, mMeth0_e, tyM_str, true_and, mLstO_0, mLstO_1, mLstO_2, mLstO_3, mLstO_4, mTup_4, mLstO_5, mLst_5, mTup_5, mLstO_6, mLst_6, mTup_6, gIsi_non_int, gIsi_non_bool, gIsi_non_tuple, gIsi_non_str, gIsi_non_list, fIs_non, gIsi_bl_int, gIsi_bl_bool, gIsi_bl_tuple, gIsi_bl_str, gIsi_bl_list, fIs_bl, gIsi_int_int, gIsi_int_bool, gIsi_int_tuple, gIsi_int_str, gIsi_int_list, fIs_int, gIsi_str_int, gIsi_str_bool, gIsi_str_tuple, gIsi_str_str, gIsi_str_list, fIs_str, gIsi_tup_int, gIsi_tup_bool, gIsi_tup_tuple, gIsi_tup_str, gIsi_tup_list, fIs_tup, gIsi_lst_int, gIsi_lst_bool, gIsi_lst_tuple, gIsi_lst_str, gIsi_lst_list, fIs_lst, gIsi_frz_int, gIsi_frz_bool, gIsi_frz_tuple, gIsi_frz_str, gIsi_frz_list, fIs_frz, gIsi_dct_int, gIsi_dct_bool, gIsi_dct_tuple, gIsi_dct_str, gIsi_dct_list, fIs_dct, List.map_cons, List.map_nil, List.length_cons, List.length_nil, List.cons_append, List.nil_append, List.set_cons_zero, List.set_cons_succ, List.replicate_zero, List.replicate_succ]
  refine ⟨_, _, rfl, rfl, by decide +kernel, hl, ?_⟩
  unfold tradeS at q
  have hsl : ∀ w ∈ Txt.split line (Str.ofString " "), w.length ≤ 16777216 := fun w hw => by
    have := len_split hw
    omega
  generalize Txt.split line (Str.ofString " ") = ws at q hsl ⊢
  simp only [app3 r_read_trade_3_e, mBody_e, startD_e, mNext_e, mSeq_e, mExpr_e, mRet_e, mRetN_e, mIfS_e, mBreak_e, mCont_e, mSet_e, mAsg_e, mPar2_e, mPar3_e, mVar_e, slot_0, slot_s, mC_e, mOp_e, mUn_e, mT_e, mAnd_e, mOr_e, mNot_e, mAndV_e, mOrV_e, mNotV_e, mIf_e, mTup_0, mTup_1, mTup_2, mTup_3, mLst_0, mLst_1, mLst_2, mLst_3, mLst_4, mCall_1, mCall_2, mCallF_1, mCallF_2, mCallF_3, mCallF_4, mFor_e, iR1_e, iZ_e, iE_e, iS_e, mLc_e, mLcO_e, mYes_e, gTg_e, bindT_nm, bindT_1, bindT_2, bindT_3, onEnv_s, onInt_i, onBl_b, onSeq_t, onSeq_l, onSeq_f, onZip_t, onZip_l, onEnum_t, onEnum_l, onT_t, onT_f, onSome_s, fAdd_ii, fAdd_tt, fAdd_ll, fAdd_ss, fSub_ii, fMul_ii, fMul_li, fDiv_ii, fMod_ii, fPow_ii, fNeg_i, fLe_ii, fGt_ii, fGe_ii, fLt_ii, fEq_ii, fEq_ss, fEq_bb, gLen_t, gLen_l, gLen_f, gInt_i, gInt_b, gBool_b, gList_t, gList_l, gList_f, gTuple_t, gTuple_l, gSum_t, gSum_l, fIx_t, fIx_l, fIx_f, fSl_t, fSl_l, fSl_f, fRev_t, fRev_l, wipeD_n, wipeD_c, mPN_e, mPS_e, mSl_e, mDct_e, mChain_e, gMax2_ii, fMulO_li, fMulT_e, iR2_e, fEqN_l, mLst_7, mLst_8, mLst_9, mLst_10, mLst_11, mLst_12, mLst_13, mLst_14, mLst_15, mLst_16, mLst_17, mLst_18, mLst_19, mLst_20, mDcx_e, mMeth_e, mMeth0_e, tyM_str, true_and, mLstO_0, mLstO_1, mLstO_2, mLstO_3, mLstO_4, mTup_4, mLstO_5, mLst_5, mTup_5, mLstO_6, mLst_6, mTup_6, gIsi_non_int, gIsi_non_bool, gIsi_non_tuple, gIsi_non_str, gIsi_non_list, fIs_non, gIsi_bl_int, gIsi_bl_bool, gIsi_bl_tuple, gIsi_bl_str, gIsi_bl_list, fIs_bl, gIsi_int_int, gIsi_int_bool, gIsi_int_tuple, gIsi_int_str, gIsi_int_list, fIs_int, gIsi_str_int, gIsi_str_bool, gIsi_str_tuple, gIsi_str_str, gIsi_str_list, fIs_str, gIsi_tup_int, gIsi_tup_bool, gIsi_tup_tuple, gIsi_tup_str, gIsi_tup_list, fIs_tup, gIsi_lst_int, gIsi_lst_bool, gIsi_lst_tuple, gIsi_lst_str, gIsi_lst_list, fIs_lst, gIsi_frz_int, gIsi_frz_bool, gIsi_frz_tuple, gIsi_frz_str, gIsi_frz_list, fIs_frz, gIsi_dct_int, gIsi_dct_bool, gIsi_dct_tuple, gIsi_dct_str, gIsi_dct_list, fIs_dct, List.map_cons, List.map_nil, List.length_cons, List.length_nil, List.cons_append, List.nil_append, List.set_cons_zero, List.set_cons_succ, List.replicate_zero, List.replicate_succ, strsV_len]
  refine ⟨mulOk_s (by decide) (by decide), ?_⟩
  by_cases c : ws.length = 2 * g + 1
  · have c' : ((ws.length : Nat) : Int) = 2 * (g : Int) + 1 := by omega
    simp only [decide_eq_true c', Bool.not_true, mBody_e, startD_e, mNext_e, mSeq_e, mExpr_e, mRet_e, mRetN_e, mIfS_e, mBreak_e, mCont_e, mSet_e, mAsg_e, mPar2_e, mPar3_e, mVar_e, slot_0, slot_s, mC_e, mOp_e, mUn_e, mT_e, mAnd_e, mOr_e, mNot_e, mAndV_e, mOrV_e, mNotV_e, mIf_e, mTup_0, mTup_1, mTup_2, mTup_3, mLst_0, mLst_1, mLst_2, mLst_3, mLst_4, mCall_1, mCall_2, mCallF_1, mCallF_2, mCallF_3, mCallF_4, mFor_e, iR1_e, iZ_e, iE_e, iS_e, mLc_e, mLcO_e, mYes_e, gTg_e, bindT_nm, bindT_1, bindT_2, bindT_3, onEnv_s, onInt_i, onBl_b, onSeq_t, onSeq_l, onSeq_f, onZip_t, onZip_l, onEnum_t, onEnum_l, onT_t, onT_f, onSome_s, fAdd_ii, fAdd_tt, fAdd_ll, fAdd_ss, fSub_ii, fMul_ii, fMul_li, fDiv_ii, fMod_ii, fPow_ii, fNeg_i, fLe_ii, fGt_ii, fGe_ii, fLt_ii, fEq_ii, fEq_ss, fEq_bb, gLen_t, gLen_l, gLen_f, gInt_i, gInt_b, gBool_b, gList_t, gList_l, gList_f, gTuple_t, gTuple_l, gSum_t, gSum_l, fIx_t, fIx_l, fIx_f, fSl_t, fSl_l, fSl_f, fRev_t, fRev_l, wipeD_n, wipeD_c, mPN_e, mPS_e, mSl_e, mDct_e, mChain_e, gMax2_ii, fMulO_li, fMulT_e, iR2_e, fEqN_l, mLst_7, mLst_8, mLst_9, mLst_10, mLst_11, mLst_12, mLst_13, mLst_14, mLst_15, mLst_16, mLst_17, mLst_18, mLst_19, mLst_20, mDcx_e, mMeth_e, mMeth0_e, tyM_str, true_and, mLstO_0, mLstO_1, mLstO_2, mLstO_3, mLstO_4, mTup_4, mLstO_5, mLst_5, mTup_5, mLstO_6, mLst_6, mTup_6, gIsi_non_int, gIsi_non_bool, gIsi_non_tuple, gIsi_non_str, gIsi_non_list, fIs_non, gIsi_bl_int, gIsi_bl_bool, gIsi_bl_tuple, gIsi_bl_str, gIsi_bl_list, fIs_bl, gIsi_int_int, gIsi_int_bool, gIsi_int_tuple, gIsi_int_str, gIsi_int_list, fIs_int, gIsi_str_int, gIsi_str_bool, gIsi_str_tuple, gIsi_str_str, gIsi_str_list, fIs_str, gIsi_tup_int, gIsi_tup_bool, gIsi_tup_tuple, gIsi_tup_str, gIsi_tup_list, fIs_tup, gIsi_lst_int, gIsi_lst_bool, gIsi_lst_tuple, gIsi_lst_str, gIsi_lst_list, fIs_lst, gIsi_frz_int, gIsi_frz_bool, gIsi_frz_tuple, gIsi_frz_str, gIsi_frz_list, fIs_frz, gIsi_dct_int, gIsi_dct_bool, gIsi_dct_tuple, gIsi_dct_str, gIsi_dct_list, fIs_dct]
    have hgw : g < ws.length := by omega
    have ea : atI (strsV ws) (g : Int) = some (.str ws[g]) := by
      rw [DL.atI_at]
      unfold strsV
      rw [List.getElem?_map, List.getElem?_eq_getElem hgw]
      rfl
    simp only [ea, mBody_e, startD_e, mNext_e, mSeq_e, mExpr_e, mRet_e, mRetN_e, mIfS_e, mBreak_e, mCont_e, mSet_e, mAsg_e, mPar2_e, mPar3_e, mVar_e, slot_0, slot_s, mC_e, mOp_e, mUn_e, mT_e, mAnd_e, mOr_e, mNot_e, mAndV_e, mOrV_e, mNotV_e, mIf_e, mTup_0, mTup_1, mTup_2, mTup_3, mLst_0, mLst_1, mLst_2, mLst_3, mLst_4, mCall_1, mCall_2, mCallF_1, mCallF_2, mCallF_3, mCallF_4, mFor_e, iR1_e, iZ_e, iE_e, iS_e, mLc_e, mLcO_e, mYes_e, gTg_e, bindT_nm, bindT_1, bindT_2, bindT_3, onEnv_s, onInt_i, onBl_b, onSeq_t, onSeq_l, onSeq_f, onZip_t, onZip_l, onEnum_t, onEnum_l, onT_t, onT_f, onSome_s, fAdd_ii, fAdd_tt, fAdd_ll, fAdd_ss, fSub_ii, fMul_ii, fMul_li, fDiv_ii, fMod_ii, fPow_ii, fNeg_i, fLe_ii, fGt_ii, fGe_ii, fLt_ii, fEq_ii, fEq_ss, fEq_bb, gLen_t, gLen_l, gLen_f, gInt_i, gInt_b, gBool_b, gList_t, gList_l, gList_f, gTuple_t, gTuple_l, gSum_t, gSum_l, fIx_t, fIx_l, fIx_f, fSl_t, fSl_l, fSl_f, fRev_t, fRev_l, wipeD_n, wipeD_c, mPN_e, mPS_e, mSl_e, mDct_e, mChain_e, gMax2_ii, fMulO_li, fMulT_e, iR2_e, fEqN_l, mLst_7, mLst_8, mLst_9, mLst_10, mLst_11, mLst_12, mLst_13, mLst_14, mLst_15, mLst_16, mLst_17, mLst_18, mLst_19, mLst_20, mDcx_e, mMeth_e, mMeth0_e, tyM_str, true_and, mLstO_0, mLstO_1, mLstO_2, mLstO_3, mLstO_4, mTup_4, mLstO_5, mLst_5, mTup_5, mLstO_6, mLst_6, mTup_6, gIsi_non_int, gIsi_non_bool, gIsi_non_tuple, gIsi_non_str, gIsi_non_list, fIs_non, gIsi_bl_int, gIsi_bl_bool, gIsi_bl_tuple, gIsi_bl_str, gIsi_bl_list, fIs_bl, gIsi_int_int, gIsi_int_bool, gIsi_int_tuple, gIsi_int_str, gIsi_int_list, fIs_int, gIsi_str_int, gIsi_str_bool, gIsi_str_tuple, gIsi_str_str, gIsi_str_list, fIs_str, gIsi_tup_int, gIsi_tup_bool, gIsi_tup_tuple, gIsi_tup_str, gIsi_tup_list, fIs_tup, gIsi_lst_int, gIsi_lst_bool, gIsi_lst_tuple, gIsi_lst_str, gIsi_lst_list, fIs_lst, gIsi_frz_int, gIsi_frz_bool, gIsi_frz_tuple, gIsi_frz_str, gIsi_frz_list, fIs_frz, gIsi_dct_int, gIsi_dct_bool, gIsi_dct_tuple, gIsi_dct_str, gIsi_dct_list, fIs_dct]
    rw [List.getElem?_eq_getElem hgw] at q
    by_cases c2 : ws[g] = Str.ofString "="
    · rw [if_pos ⟨c, by rw [c2]⟩] at q
      simp only [decide_eq_true c2, Bool.not_true, mBody_e, startD_e, mNext_e, mSeq_e, mExpr_e, mRet_e, mRetN_e, mIfS_e, mBreak_e, mCont_e, mSet_e, mAsg_e, mPar2_e, mPar3_e, mVar_e, slot_0, slot_s, mC_e, mOp_e, mUn_e, mT_e, mAnd_e, mOr_e, mNot_e, mAndV_e, mOrV_e, mNotV_e, mIf_e, mTup_0, mTup_1, mTup_2, mTup_3, mLst_0, mLst_1, mLst_2, mLst_3, mLst_4, mCall_1, mCall_2, mCallF_1, mCallF_2, mCallF_3, mCallF_4, mFor_e, iR1_e, iZ_e, iE_e, iS_e, mLc_e, mLcO_e, mYes_e, gTg_e, bindT_nm, bindT_1, bindT_2, bindT_3, onEnv_s, onInt_i, onBl_b, onSeq_t, onSeq_l, onSeq_f, onZip_t, onZip_l, onEnum_t, onEnum_l, onT_t, onT_f, onSome_s, fAdd_ii, fAdd_tt, fAdd_ll, fAdd_ss, fSub_ii, fMul_ii, fMul_li, fDiv_ii, fMod_ii, fPow_ii, fNeg_i, fLe_ii, fGt_ii, fGe_ii, fLt_ii, fEq_ii, fEq_ss, fEq_bb, gLen_t, gLen_l, gLen_f, gInt_i, gInt_b, gBool_b, gList_t, gList_l, gList_f, gTuple_t, gTuple_l, gSum_t, gSum_l, fIx_t, fIx_l, fIx_f, fSl_t, fSl_l, fSl_f, fRev_t, fRev_l, wipeD_n, wipeD_c, mPN_e, mPS_e, mSl_e, mDct_e, mChain_e, gMax2_ii, fMulO_li, fMulT_e, iR2_e, fEqN_l, mLst_7, mLst_8, mLst_9, mLst_10, mLst_11, mLst_12, mLst_13, mLst_14, mLst_15, mLst_16, mLst_17, mLst_18, mLst_19, mLst_20, mDcx_e, mMeth_e, mMeth0_e, tyM_str, true_and, mLstO_0, mLstO_1, mLstO_2, mLstO_3, mLstO_4, mTup_4, mLstO_5, mLst_5, mTup_5, mLstO_6, mLst_6, mTup_6, gIsi_non_int, gIsi_non_bool, gIsi_non_tuple, gIsi_non_str, gIsi_non_list, fIs_non, gIsi_bl_int, gIsi_bl_bool, gIsi_bl_tuple, gIsi_bl_str, gIsi_bl_list, fIs_bl, gIsi_int_int, gIsi_int_bool, gIsi_int_tuple, gIsi_int_str, gIsi_int_list, fIs_int, gIsi_str_int, gIsi_str_bool, gIsi_str_tuple, gIsi_str_str, gIsi_str_list, fIs_str, gIsi_tup_int, gIsi_tup_bool, gIsi_tup_tuple, gIsi_tup_str, gIsi_tup_list, fIs_tup, gIsi_lst_int, gIsi_lst_bool, gIsi_lst_tuple, gIsi_lst_str, gIsi_lst_list, fIs_lst, gIsi_frz_int, gIsi_frz_bool, gIsi_frz_tuple, gIsi_frz_str, gIsi_frz_list, fIs_frz, gIsi_dct_int, gIsi_dct_bool, gIsi_dct_tuple, gIsi_dct_str, gIsi_dct_list, fIs_dct, app3 r_read_trade_2_e, List.map_cons, List.map_nil, List.length_cons, List.length_nil, List.cons_append, List.nil_append, List.set_cons_zero, List.set_cons_succ, List.replicate_zero, List.replicate_succ]
      have e1 : DL.cutD (strsV ws) none (some (g : Int)) = strsV (ws.take g) := by
        rw [LB.cut_take]
        unfold strsV
        rw [List.map_take]
      have e2 : DL.cutD (strsV ws) (some ((g : Int) + 1)) none = strsV (ws.drop (g + 1)) := by
        rw [show (g : Int) + 1 = ((g + 1 : Nat) : Int) by omega, cut_drop]
        unfold strsV
        rw [List.map_drop]
      rw [e1]
      refine read_bag_ok (fun z => ?_) (by rw [List.length_take]; omega) (fun w hw => hsl w (List.mem_of_mem_take hw)) ?_
      · have z2 := congrArg List.length z
        rw [List.length_take] at z2
        have z3 : min g ws.length = 0 := z2
        omega
      simp only [mBody_e, startD_e, mNext_e, mSeq_e, mExpr_e, mRet_e, mRetN_e, mIfS_e, mBreak_e, mCont_e, mSet_e, mAsg_e, mPar2_e, mPar3_e, mVar_e, slot_0, slot_s, mC_e, mOp_e, mUn_e, mT_e, mAnd_e, mOr_e, mNot_e, mAndV_e, mOrV_e, mNotV_e, mIf_e, mTup_0, mTup_1, mTup_2, mTup_3, mLst_0, mLst_1, mLst_2, mLst_3, mLst_4, mCall_1, mCall_2, mCallF_1, mCallF_2, mCallF_3, mCallF_4, mFor_e, iR1_e, iZ_e, iE_e, iS_e, mLc_e, mLcO_e, mYes_e, gTg_e, bindT_nm, bindT_1, bindT_2, bindT_3, onEnv_s, onInt_i, onBl_b, onSeq_t, onSeq_l, onSeq_f, onZip_t, onZip_l, onEnum_t, onEnum_l, onT_t, onT_f, onSome_s, fAdd_ii, fAdd_tt, fAdd_ll, fAdd_ss, fSub_ii, fMul_ii, fMul_li, fDiv_ii, fMod_ii, fPow_ii, fNeg_i, fLe_ii, fGt_ii, fGe_ii, fLt_ii, fEq_ii, fEq_ss, fEq_bb, gLen_t, gLen_l, gLen_f, gInt_i, gInt_b, gBool_b, gList_t, gList_l, gList_f, gTuple_t, gTuple_l, gSum_t, gSum_l, fIx_t, fIx_l, fIx_f, fSl_t, fSl_l, fSl_f, fRev_t, fRev_l, wipeD_n, wipeD_c, mPN_e, mPS_e, mSl_e, mDct_e, mChain_e, gMax2_ii, fMulO_li, fMulT_e, iR2_e, fEqN_l, mLst_7, mLst_8, mLst_9, mLst_10, mLst_11, mLst_12, mLst_13, mLst_14, mLst_15, mLst_16, mLst_17, mLst_18, mLst_19, mLst_20, mDcx_e, mMeth_e, mMeth0_e, tyM_str, true_and, mLstO_0, mLstO_1, mLstO_2, mLstO_3, mLstO_4, mTup_4, mLstO_5, mLst_5, mTup_5, mLstO_6, mLst_6, mTup_6, gIsi_non_int, gIsi_non_bool, gIsi_non_tuple, gIsi_non_str, gIsi_non_list, fIs_non, gIsi_bl_int, gIsi_bl_bool, gIsi_bl_tuple, gIsi_bl_str, gIsi_bl_list, fIs_bl, gIsi_int_int, gIsi_int_bool, gIsi_int_tuple, gIsi_int_str, gIsi_int_list, fIs_int, gIsi_str_int, gIsi_str_bool, gIsi_str_tuple, gIsi_str_str, gIsi_str_list, fIs_str, gIsi_tup_int, gIsi_tup_bool, gIsi_tup_tuple, gIsi_tup_str, gIsi_tup_list, fIs_tup, gIsi_lst_int, gIsi_lst_bool, gIsi_lst_tuple, gIsi_lst_str, gIsi_lst_list, fIs_lst, gIsi_frz_int, gIsi_frz_bool, gIsi_frz_tuple, gIsi_frz_str, gIsi_frz_list, fIs_frz, gIsi_dct_int, gIsi_dct_bool, gIsi_dct_tuple, gIsi_dct_str, gIsi_dct_list, fIs_dct, List.map_cons, List.map_nil, List.length_cons, List.length_nil, List.cons_append, List.nil_append, List.set_cons_zero, List.set_cons_succ, List.replicate_zero, List.replicate_succ, e2]
      refine read_bag_ok (fun z => ?_) (by rw [List.length_drop]; omega) (fun w hw => hsl w (List.mem_of_mem_drop hw)) ?_
      · have z2 := congrArg List.length z
        rw [List.length_drop] at z2
        have z3 : ws.length - (g + 1) = 0 := z2
        omega
      simp only [app3 r_read_trade_1_e, mBody_e, startD_e, mNext_e, mSeq_e, mExpr_e, mRet_e, mRetN_e, mIfS_e, mBreak_e, mCont_e, mSet_e, mAsg_e, mPar2_e, mPar3_e, mVar_e, slot_0, slot_s, mC_e, mOp_e, mUn_e, mT_e, mAnd_e, mOr_e, mNot_e, mAndV_e, mOrV_e, mNotV_e, mIf_e, mTup_0, mTup_1, mTup_2, mTup_3, mLst_0, mLst_1, mLst_2, mLst_3, mLst_4, mCall_1, mCall_2, mCallF_1, mCallF_2, mCallF_3, mCallF_4, mFor_e, iR1_e, iZ_e, iE_e, iS_e, mLc_e, mLcO_e, mYes_e, gTg_e, bindT_nm, bindT_1, bindT_2, bindT_3, onEnv_s, onInt_i, onBl_b, onSeq_t, onSeq_l, onSeq_f, onZip_t, onZip_l, onEnum_t, onEnum_l, onT_t, onT_f, onSome_s, fAdd_ii, fAdd_tt, fAdd_ll, fAdd_ss, fSub_ii, fMul_ii, fMul_li, fDiv_ii, fMod_ii, fPow_ii, fNeg_i, fLe_ii, fGt_ii, fGe_ii, fLt_ii, fEq_ii, fEq_ss, fEq_bb, gLen_t, gLen_l, gLen_f, gInt_i, gInt_b, gBool_b, gList_t, gList_l, gList_f, gTuple_t, gTuple_l, gSum_t, gSum_l, fIx_t, fIx_l, fIx_f, fSl_t, fSl_l, fSl_f, fRev_t, fRev_l, wipeD_n, wipeD_c, mPN_e, mPS_e, mSl_e, mDct_e, mChain_e, gMax2_ii, fMulO_li, fMulT_e, iR2_e, fEqN_l, mLst_7, mLst_8, mLst_9, mLst_10, mLst_11, mLst_12, mLst_13, mLst_14, mLst_15, mLst_16, mLst_17, mLst_18, mLst_19, mLst_20, mDcx_e, mMeth_e, mMeth0_e, tyM_str, true_and, mLstO_0, mLstO_1, mLstO_2, mLstO_3, mLstO_4, mTup_4, mLstO_5, mLst_5, mTup_5, mLstO_6, mLst_6, mTup_6, gIsi_non_int, gIsi_non_bool, gIsi_non_tuple, gIsi_non_str, gIsi_non_list, fIs_non, gIsi_bl_int, gIsi_bl_bool, gIsi_bl_tuple, gIsi_bl_str, gIsi_bl_list, fIs_bl, gIsi_int_int, gIsi_int_bool, gIsi_int_tuple, gIsi_int_str, gIsi_int_list, fIs_int, gIsi_str_int, gIsi_str_bool, gIsi_str_tuple, gIsi_str_str, gIsi_str_list, fIs_str, gIsi_tup_int, gIsi_tup_bool, gIsi_tup_tuple, gIsi_tup_str, gIsi_tup_list, fIs_tup, gIsi_lst_int, gIsi_lst_bool, gIsi_lst_tuple, gIsi_lst_str, gIsi_lst_list, fIs_lst, gIsi_frz_int, gIsi_frz_bool, gIsi_frz_tuple, gIsi_frz_str, gIsi_frz_list, fIs_frz, gIsi_dct_int, gIsi_dct_bool, gIsi_dct_tuple, gIsi_dct_str, gIsi_dct_list, fIs_dct, List.map_cons, List.map_nil, List.length_cons, List.length_nil, List.cons_append, List.nil_append, List.set_cons_zero, List.set_cons_succ, List.replicate_zero, List.replicate_succ]
      cases h1 : bagS (ws.take g) with
      | none =>
        rw [h1] at q
        simp only [optB, mBody_e, startD_e, mNext_e, mSeq_e, mExpr_e, mRet_e, mRetN_e, mIfS_e, mBreak_e, mCont_e, mSet_e, mAsg_e, mPar2_e, mPar3_e, mVar_e, slot_0, slot_s, mC_e, mOp_e, mUn_e, mT_e, mAnd_e, mOr_e, mNot_e, mAndV_e, mOrV_e, mNotV_e, mIf_e, mTup_0, mTup_1, mTup_2, mTup_3, mLst_0, mLst_1, mLst_2, mLst_3, mLst_4, mCall_1, mCall_2, mCallF_1, mCallF_2, mCallF_3, mCallF_4, mFor_e, iR1_e, iZ_e, iE_e, iS_e, mLc_e, mLcO_e, mYes_e, gTg_e, bindT_nm, bindT_1, bindT_2, bindT_3, onEnv_s, onInt_i, onBl_b, onSeq_t, onSeq_l, onSeq_f, onZip_t, onZip_l, onEnum_t, onEnum_l, onT_t, onT_f, onSome_s, fAdd_ii, fAdd_tt, fAdd_ll, fAdd_ss, fSub_ii, fMul_ii, fMul_li, fDiv_ii, fMod_ii, fPow_ii, fNeg_i, fLe_ii, fGt_ii, fGe_ii, fLt_ii, fEq_ii, fEq_ss, fEq_bb, gLen_t, gLen_l, gLen_f, gInt_i, gInt_b, gBool_b, gList_t, gList_l, gList_f, gTuple_t, gTuple_l, gSum_t, gSum_l, fIx_t, fIx_l, fIx_f, fSl_t, fSl_l, fSl_f, fRev_t, fRev_l, wipeD_n, wipeD_c, mPN_e, mPS_e, mSl_e, mDct_e, mChain_e, gMax2_ii, fMulO_li, fMulT_e, iR2_e, fEqN_l, mLst_7, mLst_8, mLst_9, mLst_10, mLst_11, mLst_12, mLst_13, mLst_14, mLst_15, mLst_16, mLst_17, mLst_18, mLst_19, mLst_20, mDcx_e, mMeth_e, mMeth0_e, tyM_str, true_and, mLstO_0, mLstO_1, mLstO_2, mLstO_3, mLstO_4, mTup_4, mLstO_5, mLst_5, mTup_5, mLstO_6, mLst_6, mTup_6, gIsi_non_int, gIsi_non_bool, gIsi_non_tuple, gIsi_non_str, gIsi_non_list, fIs_non, gIsi_bl_int, gIsi_bl_bool, gIsi_bl_tuple, gIsi_bl_str, gIsi_bl_list, fIs_bl, gIsi_int_int, gIsi_int_bool, gIsi_int_tuple, gIsi_int_str, gIsi_int_list, fIs_int, gIsi_str_int, gIsi_str_bool, gIsi_str_tuple, gIsi_str_str, gIsi_str_list, fIs_str, gIsi_tup_int, gIsi_tup_bool, gIsi_tup_tuple, gIsi_tup_str, gIsi_tup_list, fIs_tup, gIsi_lst_int, gIsi_lst_bool, gIsi_lst_tuple, gIsi_lst_str, gIsi_lst_list, fIs_lst, gIsi_frz_int, gIsi_frz_bool, gIsi_frz_tuple, gIsi_frz_str, gIsi_frz_list, fIs_frz, gIsi_dct_int, gIsi_dct_bool, gIsi_dct_tuple, gIsi_dct_str, gIsi_dct_list, fIs_dct]
        exact q
      | some a =>
        cases h2 : bagS (ws.drop (g + 1)) with
        | none =>
          rw [h1, h2] at q
          simp only [optB, mBody_e, startD_e, mNext_e, mSeq_e, mExpr_e, mRet_e, mRetN_e, mIfS_e, mBreak_e, mCont_e, mSet_e, mAsg_e, mPar2_e, mPar3_e, mVar_e, slot_0, slot_s, mC_e, mOp_e, mUn_e, mT_e, mAnd_e, mOr_e, mNot_e, mAndV_e, mOrV_e, mNotV_e, mIf_e, mTup_0, mTup_1, mTup_2, mTup_3, mLst_0, mLst_1, mLst_2, mLst_3, mLst_4, mCall_1, mCall_2, mCallF_1, mCallF_2, mCallF_3, mCallF_4, mFor_e, iR1_e, iZ_e, iE_e, iS_e, mLc_e, mLcO_e, mYes_e, gTg_e, bindT_nm, bindT_1, bindT_2, bindT_3, onEnv_s, onInt_i, onBl_b, onSeq_t, onSeq_l, onSeq_f, onZip_t, onZip_l, onEnum_t, onEnum_l, onT_t, onT_f, onSome_s, fAdd_ii, fAdd_tt, fAdd_ll, fAdd_ss, fSub_ii, fMul_ii, fMul_li, fDiv_ii, fMod_ii, fPow_ii, fNeg_i, fLe_ii, fGt_ii, fGe_ii, fLt_ii, fEq_ii, fEq_ss, fEq_bb, gLen_t, gLen_l, gLen_f, gInt_i, gInt_b, gBool_b, gList_t, gList_l, gList_f, gTuple_t, gTuple_l, gSum_t, gSum_l, fIx_t, fIx_l, fIx_f, fSl_t, fSl_l, fSl_f, fRev_t, fRev_l, wipeD_n, wipeD_c, mPN_e, mPS_e, mSl_e, mDct_e, mChain_e, gMax2_ii, fMulO_li, fMulT_e, iR2_e, fEqN_l, mLst_7, mLst_8, mLst_9, mLst_10, mLst_11, mLst_12, mLst_13, mLst_14, mLst_15, mLst_16, mLst_17, mLst_18, mLst_19, mLst_20, mDcx_e, mMeth_e, mMeth0_e, tyM_str, true_and, mLstO_0, mLstO_1, mLstO_2, mLstO_3, mLstO_4, mTup_4, mLstO_5, mLst_5, mTup_5, mLstO_6, mLst_6, mTup_6, gIsi_non_int, gIsi_non_bool, gIsi_non_tuple, gIsi_non_str, gIsi_non_list, fIs_non, gIsi_bl_int, gIsi_bl_bool, gIsi_bl_tuple, gIsi_bl_str, gIsi_bl_list, fIs_bl, gIsi_int_int, gIsi_int_bool, gIsi_int_tuple, gIsi_int_str, gIsi_int_list, fIs_int, gIsi_str_int, gIsi_str_bool, gIsi_str_tuple, gIsi_str_str, gIsi_str_list, fIs_str, gIsi_tup_int, gIsi_tup_bool, gIsi_tup_tuple, gIsi_tup_str, gIsi_tup_list, fIs_tup, gIsi_lst_int, gIsi_lst_bool, gIsi_lst_tuple, gIsi_lst_str, gIsi_lst_list, fIs_lst, gIsi_frz_int, gIsi_frz_bool, gIsi_frz_tuple, gIsi_frz_str, gIsi_frz_list, fIs_frz, gIsi_dct_int, gIsi_dct_bool, gIsi_dct_tuple, gIsi_dct_str, gIsi_dct_list, fIs_dct]
          exact q
        | some b =>
          rw [h1, h2] at q
          simp only [optB, mBody_e, startD_e, mNext_e, mSeq_e, mExpr_e, mRet_e, mRetN_e, mIfS_e, mBreak_e, mCont_e, mSet_e, mAsg_e, mPar2_e, mPar3_e, mVar_e, slot_0, slot_s, mC_e, mOp_e, mUn_e, mT_e, mAnd_e, mOr_e, mNot_e, mAndV_e, mOrV_e, mNotV_e, mIf_e, mTup_0, mTup_1, mTup_2, mTup_3, mLst_0, mLst_1, mLst_2, mLst_3, mLst_4, mCall_1, mCall_2, mCallF_1, mCallF_2, mCallF_3, mCallF_4, mFor_e, iR1_e, iZ_e, iE_e, iS_e, mLc_e, mLcO_e, mYes_e, gTg_e, bindT_nm, bindT_1, bindT_2, bindT_3, onEnv_s, onInt_i, onBl_b, onSeq_t, onSeq_l, onSeq_f, onZip_t, onZip_l, onEnum_t, onEnum_l, onT_t, onT_f, onSome_s, fAdd_ii, fAdd_tt, fAdd_ll, fAdd_ss, fSub_ii, fMul_ii, fMul_li, fDiv_ii, fMod_ii, fPow_ii, fNeg_i, fLe_ii, fGt_ii, fGe_ii, fLt_ii, fEq_ii, fEq_ss, fEq_bb, gLen_t, gLen_l, gLen_f, gInt_i, gInt_b, gBool_b, gList_t, gList_l, gList_f, gTuple_t, gTuple_l, gSum_t, gSum_l, fIx_t, fIx_l, fIx_f, fSl_t, fSl_l, fSl_f, fRev_t, fRev_l, wipeD_n, wipeD_c, mPN_e, mPS_e, mSl_e, mDct_e, mChain_e, gMax2_ii, fMulO_li, fMulT_e, iR2_e, fEqN_l, mLst_7, mLst_8, mLst_9, mLst_10, mLst_11, mLst_12, mLst_13, mLst_14, mLst_15, mLst_16, mLst_17, mLst_18, mLst_19, mLst_20, mDcx_e, mMeth_e, mMeth0_e, tyM_str, true_and, mLstO_0, mLstO_1, mLstO_2, mLstO_3, mLstO_4, mTup_4, mLstO_5, mLst_5, mTup_5, mLstO_6, mLst_6, mTup_6, gIsi_non_int, gIsi_non_bool, gIsi_non_tuple, gIsi_non_str, gIsi_non_list, fIs_non, gIsi_bl_int, gIsi_bl_bool, gIsi_bl_tuple, gIsi_bl_str, gIsi_bl_list, fIs_bl, gIsi_int_int, gIsi_int_bool, gIsi_int_tuple, gIsi_int_str, gIsi_int_list, fIs_int, gIsi_str_int, gIsi_str_bool, gIsi_str_tuple, gIsi_str_str, gIsi_str_list, fIs_str, gIsi_tup_int, gIsi_tup_bool, gIsi_tup_tuple, gIsi_tup_str, gIsi_tup_list, fIs_tup, gIsi_lst_int, gIsi_lst_bool, gIsi_lst_tuple, gIsi_lst_str, gIsi_lst_list, fIs_lst, gIsi_frz_int, gIsi_frz_bool, gIsi_frz_tuple, gIsi_frz_str, gIsi_frz_list, fIs_frz, gIsi_dct_int, gIsi_dct_bool, gIsi_dct_tuple, gIsi_dct_str, gIsi_dct_list, fIs_dct]
          exact q
    · rw [if_neg (fun z => c2 (Option.some.inj z.2))] at q
      simp only [decide_eq_false c2, Bool.not_false, mBody_e, startD_e, mNext_e, mSeq_e, mExpr_e, mRet_e, mRetN_e, mIfS_e, mBreak_e, mCont_e, mSet_e, mAsg_e, mPar2_e, mPar3_e, mVar_e, slot_0, slot_s, mC_e, mOp_e, mUn_e, mT_e, mAnd_e, mOr_e, mNot_e, mAndV_e, mOrV_e, mNotV_e, mIf_e, mTup_0, mTup_1, mTup_2, mTup_3, mLst_0, mLst_1, mLst_2, mLst_3, mLst_4, mCall_1, mCall_2, mCallF_1, mCallF_2, mCallF_3, mCallF_4, mFor_e, iR1_e, iZ_e, iE_e, iS_e, mLc_e, mLcO_e, mYes_e, gTg_e, bindT_nm, bindT_1, bindT_2, bindT_3, onEnv_s, onInt_i, onBl_b, onSeq_t, onSeq_l, onSeq_f, onZip_t, onZip_l, onEnum_t, onEnum_l, onT_t, onT_f, onSome_s, fAdd_ii, fAdd_tt, fAdd_ll, fAdd_ss, fSub_ii, fMul_ii, fMul_li, fDiv_ii, fMod_ii, fPow_ii, fNeg_i, fLe_ii, fGt_ii, fGe_ii, fLt_ii, fEq_ii, fEq_ss, fEq_bb, gLen_t, gLen_l, gLen_f, gInt_i, gInt_b, gBool_b, gList_t, gList_l, gList_f, gTuple_t, gTuple_l, gSum_t, gSum_l, fIx_t, fIx_l, fIx_f, fSl_t, fSl_l, fSl_f, fRev_t, fRev_l, wipeD_n, wipeD_c, mPN_e, mPS_e, mSl_e, mDct_e, mChain_e, gMax2_ii, fMulO_li, fMulT_e, iR2_e, fEqN_l, mLst_7, mLst_8, mLst_9, mLst_10, mLst_11, mLst_12, mLst_13, mLst_14, mLst_15, mLst_16, mLst_17, mLst_18, mLst_19, mLst_20, mDcx_e, mMeth_e, mMeth0_e, tyM_str, true_and, mLstO_0, mLstO_1, mLstO_2, mLstO_3, mLstO_4, mTup_4, mLstO_5, mLst_5, mTup_5, mLstO_6, mLst_6, mTup_6, gIsi_non_int, gIsi_non_bool, gIsi_non_tuple, gIsi_non_str, gIsi_non_list, fIs_non, gIsi_bl_int, gIsi_bl_bool, gIsi_bl_tuple, gIsi_bl_str, gIsi_bl_list, fIs_bl, gIsi_int_int, gIsi_int_bool, gIsi_int_tuple, gIsi_int_str, gIsi_int_list, fIs_int, gIsi_str_int, gIsi_str_bool, gIsi_str_tuple, gIsi_str_str, gIsi_str_list, fIs_str, gIsi_tup_int, gIsi_tup_bool, gIsi_tup_tuple, gIsi_tup_str, gIsi_tup_list, fIs_tup, gIsi_lst_int, gIsi_lst_bool, gIsi_lst_tuple, gIsi_lst_str, gIsi_lst_list, fIs_lst, gIsi_frz_int, gIsi_frz_bool, gIsi_frz_tuple, gIsi_frz_str, gIsi_frz_list, fIs_frz, gIsi_dct_int, gIsi_dct_bool, gIsi_dct_tuple, gIsi_dct_str, gIsi_dct_list, fIs_dct]
      exact q
  · rw [if_neg fun z => c z.1] at q
    have c' : ¬ ((ws.length : Nat) : Int) = 2 * (g : Int) + 1 := by omega
    simp only [decide_eq_false c', Bool.not_false, mBody_e, startD_e, mNext_e, mSeq_e, mExpr_e, mRet_e, mRetN_e, mIfS_e, mBreak_e, mCont_e, mSet_e, mAsg_e, mPar2_e, mPar3_e, mVar_e, slot_0, slot_s, mC_e, mOp_e, mUn_e, mT_e, mAnd_e, mOr_e, mNot_e, mAndV_e, mOrV_e, mNotV_e, mIf_e, mTup_0, mTup_1, mTup_2, mTup_3, mLst_0, mLst_1, mLst_2, mLst_3, mLst_4, mCall_1, mCall_2, mCallF_1, mCallF_2, mCallF_3, mCallF_4, mFor_e, iR1_e, iZ_e, iE_e, iS_e, mLc_e, mLcO_e, mYes_e, gTg_e, bindT_nm, bindT_1, bindT_2, bindT_3, onEnv_s, onInt_i, onBl_b, onSeq_t, onSeq_l, onSeq_f, onZip_t, onZip_l, onEnum_t, onEnum_l, onT_t, onT_f, onSome_s, fAdd_ii, fAdd_tt, fAdd_ll, fAdd_ss, fSub_ii, fMul_ii, fMul_li, fDiv_ii, fMod_ii, fPow_ii, fNeg_i, fLe_ii, fGt_ii, fGe_ii, fLt_ii, fEq_ii, fEq_ss, fEq_bb, gLen_t, gLen_l, gLen_f, gInt_i, gInt_b, gBool_b, gList_t, gList_l, gList_f, gTuple_t, gTuple_l, gSum_t, gSum_l, fIx_t, fIx_l, fIx_f, fSl_t, fSl_l, fSl_f, fRev_t, fRev_l, wipeD_n, wipeD_c, mPN_e, mPS_e, mSl_e, mDct_e, mChain_e, gMax2_ii, fMulO_li, fMulT_e, iR2_e, fEqN_l, mLst_7, mLst_8, mLst_9, mLst_10, mLst_11, mLst_12, mLst_13, mLst_14, mLst_15, mLst_16, mLst_17, mLst_18, mLst_19, mLst_20, mDcx_e, mMeth_e, mMeth0_e, tyM_str, true_and, mLstO_0, mLstO_1, mLstO_2, mLstO_3, mLstO_4, mTup_4, mLstO_5, mLst_5, mTup_5, mLstO_6, mLst_6, mTup_6, gIsi_non_int, gIsi_non_bool, gIsi_non_tuple, gIsi_non_str, gIsi_non_list, fIs_non, gIsi_bl_int, gIsi_bl_bool, gIsi_bl_tuple, gIsi_bl_str, gIsi_bl_list, fIs_bl, gIsi_int_int, gIsi_int_bool, gIsi_int_tuple, gIsi_int_str, gIsi_int_list, fIs_int, gIsi_str_int, gIsi_str_bool, gIsi_str_tuple, gIsi_str_str, gIsi_str_list, fIs_str, gIsi_tup_int, gIsi_tup_bool, gIsi_tup_tuple, gIsi_tup_str, gIsi_tup_list, fIs_tup, gIsi_lst_int, gIsi_lst_bool, gIsi_lst_tuple, gIsi_lst_str, gIsi_lst_list, fIs_lst, gIsi_frz_int, gIsi_frz_bool, gIsi_frz_tuple, gIsi_frz_str, gIsi_frz_list, fIs_frz, gIsi_dct_int, gIsi_dct_bool, gIsi_dct_tuple, gIsi_dct_str, gIsi_dct_list, fIs_dct]
    exact q
def goodsS (line : Str) : Nat := if line = headT 1 then 1 else if line = headT 2 then 2 else if line = headT 3 then 3 else if line = headT 4 then 4 else 0
theorem read_goods_ok {line : Str} {S : Store} {Q : MK DV} {E : MX} (q : Q (.int (goodsS line)) S) : m_read_goods [.str line] S Q E := by
  simp only [app4 m_read_goods_e, app3 b_read_goods_e, mBody_e, startD_e, mNext_e, mSeq_e, mExpr_e, mRet_e, mRetN_e, mIfS_e, mBreak_e, mCont_e, mSet_e, mAsg_e, mPar2_e, mPar3_e, mVar_e, slot_0, slot_s, mC_e, mOp_e, mUn_e, mT_e, mAnd_e, mOr_e, mNot_e, mAndV_e, mOrV_e, mNotV_e, mIf_e, mTup_0, mTup_1, mTup_2, mTup_3, mLst_0, mLst_1, mLst_2, mLst_3, mLst_4, mCall_1, mCall_2, mCallF_1, mCallF_2, mCallF_3, mCallF_4, mFor_e, iR1_e, iZ_e, iE_e, iS_e, mLc_e, mLcO_e, mYes_e, gTg_e, bindT_nm, bindT_1, bindT_2, bindT_3, onEnv_s, onInt_i, onBl_b, onSeq_t, onSeq_l, onSeq_f, onZip_t, onZip_l, onEnum_t, onEnum_l, onT_t, onT_f, onSome_s, fAdd_ii, fAdd_tt, fAdd_ll, fAdd_ss, fSub_ii, fMul_ii, fMul_li, fDiv_ii, fMod_ii, fPow_ii, fNeg_i, fLe_ii, fGt_ii, fGe_ii, fLt_ii, fEq_ii, fEq_ss, fEq_bb, gLen_t, gLen_l, gLen_f, gInt_i, gInt_b, gBool_b, gList_t, gList_l, gList_f, gTuple_t, gTuple_l, gSum_t, gSum_l, fIx_t, fIx_l, fIx_f, fSl_t, fSl_l, fSl_f, fRev_t, fRev_l, wipeD_n, wipeD_c, mPN_e, mPS_e, mSl_e, mDct_e, mChain_e, gMax2_ii, fMulO_li, fMulT_e, iR2_e, fEqN_l, mLst_7, mLst_8, mLst_9, mLst_10, mLst_11, mLst_12, mLst_13, mLst_14, mLst_15, mLst_16, mLst_17, mLst_18, mLst_19, mLst_20, mDcx_e, mMeth_e, mMeth0_e, tyM_str, true_and, mLstO_0, mLstO_1, mLstO_2, mLstO_3, mLstO_4, mTup_4, mLstO_5, mLst_5, mTup_5, mLstO_6, mLst_6, mTup_6, gIsi_non_int, gIsi_non_bool, gIsi_non_tuple, gIsi_non_str, gIsi_non_list, fIs_non, gIsi_bl_int, gIsi_bl_bool, gIsi_bl_tuple, gIsi_bl_str, gIsi_bl_list, fIs_bl, gIsi_int_int, gIsi_int_bool, gIsi_int_tuple, gIsi_int_str, gIsi_int_list, fIs_int, gIsi_str_int, gIsi_str_bool, gIsi_str_tuple, gIsi_str_str, gIsi_str_list, fIs_str, gIsi_tup_int, gIsi_tup_bool, gIsi_tup_tuple, gIsi_tup_str, gIsi_tup_list, fIs_tup, gIsi_lst_int, gIsi_lst_bool, gIsi_lst_tuple, gIsi_lst_str, gIsi_lst_list, fIs_lst, gIsi_frz_int, gIsi_frz_bool, gIsi_frz_tuple, gIsi_frz_str, gIsi_frz_list, fIs_frz, gIsi_dct_int, gIsi_dct_bool, gIsi_dct_tuple, gIsi_dct_str, gIsi_dct_list, fIs_dct, List.map_cons, List.map_nil, List.length_cons, List.length_nil, List.cons_append, List.nil_append, List.set_cons_zero, List.set_cons_succ, List.replicate_zero, List.replicate_succ]
  refine ⟨by decide, ?_⟩
  have e : rngD 1 ((4 : Int) + 1 - 1).toNat = [.int 1, .int 2, .int 3, .int 4] := rfl
  rw [e]
  have step : ∀ (k : Nat) (xs : List DV) (d1 : Option DV) (D : EndsD), k ≤ 9 → (line = headT k → D.rt (.int k) S) → (line ≠ headT k → forGo (gTg (.nm 1)) f_read_goods_1 D xs [some (.str line), some (.int k)] S) → forGo (gTg (.nm 1)) f_read_goods_1 D (.int k :: xs) [some (.str line), d1] S := by
    intro k xs d1 D hk h1 h2
    simp only [forGo_c, app3 f_read_goods_1_e, mBody_e, startD_e, mNext_e, mSeq_e, mExpr_e, mRet_e, mRetN_e, mIfS_e, mBreak_e, mCont_e, mSet_e, mAsg_e, mPar2_e, mPar3_e, mVar_e, slot_0, slot_s, mC_e, mOp_e, mUn_e, mT_e, mAnd_e, mOr_e, mNot_e, mAndV_e, mOrV_e, mNotV_e, mIf_e, mTup_0, mTup_1, mTup_2, mTup_3, mLst_0, mLst_1, mLst_2, mLst_3, mLst_4, mCall_1, mCall_2, mCallF_1, mCallF_2, mCallF_3, mCallF_4, mFor_e, iR1_e, iZ_e, iE_e, iS_e, mLc_e, mLcO_e, mYes_e, gTg_e, bindT_nm, bindT_1, bindT_2, bindT_3, onEnv_s, onInt_i, onBl_b, onSeq_t, onSeq_l, onSeq_f, onZip_t, onZip_l, onEnum_t, onEnum_l, onT_t, onT_f, onSome_s, fAdd_ii, fAdd_tt, fAdd_ll, fAdd_ss, fSub_ii, fMul_ii, fMul_li, fDiv_ii, fMod_ii, fPow_ii, fNeg_i, fLe_ii, fGt_ii, fGe_ii, fLt_ii, fEq_ii, fEq_ss, fEq_bb, gLen_t, gLen_l, gLen_f, gInt_i, gInt_b, gBool_b, gList_t, gList_l, gList_f, gTuple_t, gTuple_l, gSum_t, gSum_l, fIx_t, fIx_l, fIx_f, fSl_t, fSl_l, fSl_f, fRev_t, fRev_l, wipeD_n, wipeD_c, mPN_e, mPS_e, mSl_e, mDct_e, mChain_e, gMax2_ii, fMulO_li, fMulT_e, iR2_e, fEqN_l, mLst_7, mLst_8, mLst_9, mLst_10, mLst_11, mLst_12, mLst_13, mLst_14, mLst_15, mLst_16, mLst_17, mLst_18, mLst_19, mLst_20, mDcx_e, mMeth_e, mMeth0_e, tyM_str, true_and, mLstO_0, mLstO_1, mLstO_2, mLstO_3, mLstO_4, mTup_4, mLstO_5, mLst_5, mTup_5, mLstO_6, mLst_6, mTup_6, gIsi_non_int, gIsi_non_bool, gIsi_non_tuple, gIsi_non_str, gIsi_non_list, fIs_non, gIsi_bl_int, gIsi_bl_bool, gIsi_bl_tuple, gIsi_bl_str, gIsi_bl_list, fIs_bl, gIsi_int_int, gIsi_int_bool, gIsi_int_tuple, gIsi_int_str, gIsi_int_list, fIs_int, gIsi_str_int, gIsi_str_bool, gIsi_str_tuple, gIsi_str_str, gIsi_str_list, fIs_str, gIsi_tup_int, gIsi_tup_bool, gIsi_tup_tuple, gIsi_tup_str, gIsi_tup_list, fIs_tup, gIsi_lst_int, gIsi_lst_bool, gIsi_lst_tuple, gIsi_lst_str, gIsi_lst_list, fIs_lst, gIsi_frz_int, gIsi_frz_bool, gIsi_frz_tuple, gIsi_frz_str, gIsi_frz_list, fIs_frz, gIsi_dct_int, gIsi_dct_bool, gIsi_dct_tuple, gIsi_dct_str, gIsi_dct_list, fIs_dct, List.map_cons, List.map_nil, List.length_cons, List.length_nil, List.cons_append, List.nil_append, List.set_cons_zero, List.set_cons_succ, List.replicate_zero, List.replicate_succ]
    refine gStr_ok (by omega) (by omega) ?_
    simp only [mBody_e, startD_e, mNext_e, mSeq_e, mExpr_e, mRet_e, mRetN_e, mIfS_e, mBreak_e, mCont_e, mSet_e, mAsg_e, mPar2_e, mPar3_e, mVar_e, slot_0, slot_s, mC_e, mOp_e, mUn_e, mT_e, mAnd_e, mOr_e, mNot_e, mAndV_e, mOrV_e, mNotV_e, mIf_e, mTup_0, mTup_1, mTup_2, mTup_3, mLst_0, mLst_1, mLst_2, mLst_3, mLst_4, mCall_1, mCall_2, mCallF_1, mCallF_2, mCallF_3, mCallF_4, mFor_e, iR1_e, iZ_e, iE_e, iS_e, mLc_e, mLcO_e, mYes_e, gTg_e, bindT_nm, bindT_1, bindT_2, bindT_3, onEnv_s, onInt_i, onBl_b, onSeq_t, onSeq_l, onSeq_f, onZip_t, onZip_l, onEnum_t, onEnum_l, onT_t, onT_f, onSome_s, fAdd_ii, fAdd_tt, fAdd_ll, fAdd_ss, fSub_ii, fMul_ii, fMul_li, fDiv_ii, fMod_ii, fPow_ii, fNeg_i, fLe_ii, fGt_ii, fGe_ii, fLt_ii, fEq_ii, fEq_ss, fEq_bb, gLen_t, gLen_l, gLen_f, gInt_i, gInt_b, gBool_b, gList_t, gList_l, gList_f, gTuple_t, gTuple_l, gSum_t, gSum_l, fIx_t, fIx_l, fIx_f, fSl_t, fSl_l, fSl_f, fRev_t, fRev_l, wipeD_n, wipeD_c, mPN_e, mPS_e, mSl_e, mDct_e, mChain_e, gMax2_ii, fMulO_li, fMulT_e, iR2_e, fEqN_l, mLst_7, mLst_8, mLst_9, mLst_10, mLst_11, mLst_12, mLst_13, mLst_14, mLst_15, mLst_16, mLst_17, mLst_18, mLst_19, mLst_20, mDcx_e, mMeth_e, mMeth0_e, tyM_str, true_and, mLstO_0, mLstO_1, mLstO_2, mLstO_3, mLstO_4, mTup_4, mLstO_5, mLst_5, mTup_5, mLstO_6, mLst_6, mTup_6, gIsi_non_int, gIsi_non_bool, gIsi_non_tuple, gIsi_non_str, gIsi_non_list, fIs_non, gIsi_bl_int, gIsi_bl_bool, gIsi_bl_tuple, gIsi_bl_str, gIsi_bl_list, fIs_bl, gIsi_int_int, gIsi_int_bool, gIsi_int_tuple, gIsi_int_str, gIsi_int_list, fIs_int, gIsi_str_int, gIsi_str_bool, gIsi_str_tuple, gIsi_str_str, gIsi_str_list, fIs_str, gIsi_tup_int, gIsi_tup_bool, gIsi_tup_tuple, gIsi_tup_str, gIsi_tup_list, fIs_tup, gIsi_lst_int, gIsi_lst_bool, gIsi_lst_tuple, gIsi_lst_str, gIsi_lst_list, fIs_lst, gIsi_frz_int, gIsi_frz_bool, gIsi_frz_tuple, gIsi_frz_str, gIsi_frz_list, fIs_frz, gIsi_dct_int, gIsi_dct_bool, gIsi_dct_tuple, gIsi_dct_str, gIsi_dct_list, fIs_dct, List.map_cons, List.map_nil, List.length_cons, List.length_nil, List.cons_append, List.nil_append, List.set_cons_zero, List.set_cons_succ, List.replicate_zero, List.replicate_succ]
    refine ⟨by
      have e : (Str.ofString "goods ").length = 6 := by decide +kernel
      rw [e, sI_len (by omega) (by omega)]
      decide, ?_⟩
    by_cases c : line = headT k
    · have c' : line = Str.ofString "goods " ++ sI (k : Int) := c
      simp only [decide_eq_true c', mBody_e, startD_e, mNext_e, mSeq_e, mExpr_e, mRet_e, mRetN_e, mIfS_e, mBreak_e, mCont_e, mSet_e, mAsg_e, mPar2_e, mPar3_e, mVar_e, slot_0, slot_s, mC_e, mOp_e, mUn_e, mT_e, mAnd_e, mOr_e, mNot_e, mAndV_e, mOrV_e, mNotV_e, mIf_e, mTup_0, mTup_1, mTup_2, mTup_3, mLst_0, mLst_1, mLst_2, mLst_3, mLst_4, mCall_1, mCall_2, mCallF_1, mCallF_2, mCallF_3, mCallF_4, mFor_e, iR1_e, iZ_e, iE_e, iS_e, mLc_e, mLcO_e, mYes_e, gTg_e, bindT_nm, bindT_1, bindT_2, bindT_3, onEnv_s, onInt_i, onBl_b, onSeq_t, onSeq_l, onSeq_f, onZip_t, onZip_l, onEnum_t, onEnum_l, onT_t, onT_f, onSome_s, fAdd_ii, fAdd_tt, fAdd_ll, fAdd_ss, fSub_ii, fMul_ii, fMul_li, fDiv_ii, fMod_ii, fPow_ii, fNeg_i, fLe_ii, fGt_ii, fGe_ii, fLt_ii, fEq_ii, fEq_ss, fEq_bb, gLen_t, gLen_l, gLen_f, gInt_i, gInt_b, gBool_b, gList_t, gList_l, gList_f, gTuple_t, gTuple_l, gSum_t, gSum_l, fIx_t, fIx_l, fIx_f, fSl_t, fSl_l, fSl_f, fRev_t, fRev_l, wipeD_n, wipeD_c, mPN_e, mPS_e, mSl_e, mDct_e, mChain_e, gMax2_ii, fMulO_li, fMulT_e, iR2_e, fEqN_l, mLst_7, mLst_8, mLst_9, mLst_10, mLst_11, mLst_12, mLst_13, mLst_14, mLst_15, mLst_16, mLst_17, mLst_18, mLst_19, mLst_20, mDcx_e, mMeth_e, mMeth0_e, tyM_str, true_and, mLstO_0, mLstO_1, mLstO_2, mLstO_3, mLstO_4, mTup_4, mLstO_5, mLst_5, mTup_5, mLstO_6, mLst_6, mTup_6, gIsi_non_int, gIsi_non_bool, gIsi_non_tuple, gIsi_non_str, gIsi_non_list, fIs_non, gIsi_bl_int, gIsi_bl_bool, gIsi_bl_tuple, gIsi_bl_str, gIsi_bl_list, fIs_bl, gIsi_int_int, gIsi_int_bool, gIsi_int_tuple, gIsi_int_str, gIsi_int_list, fIs_int, gIsi_str_int, gIsi_str_bool, gIsi_str_tuple, gIsi_str_str, gIsi_str_list, fIs_str, gIsi_tup_int, gIsi_tup_bool, gIsi_tup_tuple, gIsi_tup_str, gIsi_tup_list, fIs_tup, gIsi_lst_int, gIsi_lst_bool, gIsi_lst_tuple, gIsi_lst_str, gIsi_lst_list, fIs_lst, gIsi_frz_int, gIsi_frz_bool, gIsi_frz_tuple, gIsi_frz_str, gIsi_frz_list, fIs_frz, gIsi_dct_int, gIsi_dct_bool, gIsi_dct_tuple, gIsi_dct_str, gIsi_dct_list, fIs_dct]
      exact h1 c
    · have c' : ¬ line = Str.ofString "goods " ++ sI (k : Int) := c
      simp only [decide_eq_false c', mBody_e, startD_e, mNext_e, mSeq_e, mExpr_e, mRet_e, mRetN_e, mIfS_e, mBreak_e, mCont_e, mSet_e, mAsg_e, mPar2_e, mPar3_e, mVar_e, slot_0, slot_s, mC_e, mOp_e, mUn_e, mT_e, mAnd_e, mOr_e, mNot_e, mAndV_e, mOrV_e, mNotV_e, mIf_e, mTup_0, mTup_1, mTup_2, mTup_3, mLst_0, mLst_1, mLst_2, mLst_3, mLst_4, mCall_1, mCall_2, mCallF_1, mCallF_2, mCallF_3, mCallF_4, mFor_e, iR1_e, iZ_e, iE_e, iS_e, mLc_e, mLcO_e, mYes_e, gTg_e, bindT_nm, bindT_1, bindT_2, bindT_3, onEnv_s, onInt_i, onBl_b, onSeq_t, onSeq_l, onSeq_f, onZip_t, onZip_l, onEnum_t, onEnum_l, onT_t, onT_f, onSome_s, fAdd_ii, fAdd_tt, fAdd_ll, fAdd_ss, fSub_ii, fMul_ii, fMul_li, fDiv_ii, fMod_ii, fPow_ii, fNeg_i, fLe_ii, fGt_ii, fGe_ii, fLt_ii, fEq_ii, fEq_ss, fEq_bb, gLen_t, gLen_l, gLen_f, gInt_i, gInt_b, gBool_b, gList_t, gList_l, gList_f, gTuple_t, gTuple_l, gSum_t, gSum_l, fIx_t, fIx_l, fIx_f, fSl_t, fSl_l, fSl_f, fRev_t, fRev_l, wipeD_n, wipeD_c, mPN_e, mPS_e, mSl_e, mDct_e, mChain_e, gMax2_ii, fMulO_li, fMulT_e, iR2_e, fEqN_l, mLst_7, mLst_8, mLst_9, mLst_10, mLst_11, mLst_12, mLst_13, mLst_14, mLst_15, mLst_16, mLst_17, mLst_18, mLst_19, mLst_20, mDcx_e, mMeth_e, mMeth0_e, tyM_str, true_and, mLstO_0, mLstO_1, mLstO_2, mLstO_3, mLstO_4, mTup_4, mLstO_5, mLst_5, mTup_5, mLstO_6, mLst_6, mTup_6, gIsi_non_int, gIsi_non_bool, gIsi_non_tuple, gIsi_non_str, gIsi_non_list, fIs_non, gIsi_bl_int, gIsi_bl_bool, gIsi_bl_tuple, gIsi_bl_str, gIsi_bl_list, fIs_bl, gIsi_int_int, gIsi_int_bool, gIsi_int_tuple, gIsi_int_str, gIsi_int_list, fIs_int, gIsi_str_int, gIsi_str_bool, gIsi_str_tuple, gIsi_str_str, gIsi_str_list, fIs_str, gIsi_tup_int, gIsi_tup_bool, gIsi_tup_tuple, gIsi_tup_str, gIsi_tup_list, fIs_tup, gIsi_lst_int, gIsi_lst_bool, gIsi_lst_tuple, gIsi_lst_str, gIsi_lst_list, fIs_lst, gIsi_frz_int, gIsi_frz_bool, gIsi_frz_tuple, gIsi_frz_str, gIsi_frz_list, fIs_frz, gIsi_dct_int, gIsi_dct_bool, gIsi_dct_tuple, gIsi_dct_str, gIsi_dct_list, fIs_dct]
      exact h2 c
  unfold goodsS at q
  refine step 1 _ _ _ (by decide) (fun h => by rw [if_pos h] at q; exact q) fun n1 => ?_
  rw [if_neg n1] at q
  refine step 2 _ _ _ (by decide) (fun h => by rw [if_pos h] at q; exact q) fun n2 => ?_
  rw [if_neg n2] at q
  refine step 3 _ _ _ (by decide) (fun h => by rw [if_pos h] at q; exact q) fun n3 => ?_
  rw [if_neg n3] at q
  refine step 4 _ _ _ (by decide) (fun h => by rw [if_pos h] at q; exact q) fun n4 => ?_
  rw [if_neg n4] at q
  show r_read_goods_1 _ _ _
  simp only [app3 r_read_goods_1_e, mBody_e, startD_e, mNext_e, mSeq_e, mExpr_e, mRet_e, mRetN_e, mIfS_e, mBreak_e, mCont_e, mSet_e, mAsg_e, mPar2_e, mPar3_e, mVar_e, slot_0, slot_s, mC_e, mOp_e, mUn_e, mT_e, mAnd_e, mOr_e, mNot_e, mAndV_e, mOrV_e, mNotV_e, mIf_e, mTup_0, mTup_1, mTup_2, mTup_3, mLst_0, mLst_1, mLst_2, mLst_3, mLst_4, mCall_1, mCall_2, mCallF_1, mCallF_2, mCallF_3, mCallF_4, mFor_e, iR1_e, iZ_e, iE_e, iS_e, mLc_e, mLcO_e, mYes_e, gTg_e, bindT_nm, bindT_1, bindT_2, bindT_3, onEnv_s, onInt_i, onBl_b, onSeq_t, onSeq_l, onSeq_f, onZip_t, onZip_l, onEnum_t, onEnum_l, onT_t, onT_f, onSome_s, fAdd_ii, fAdd_tt, fAdd_ll, fAdd_ss, fSub_ii, fMul_ii, fMul_li, fDiv_ii, fMod_ii, fPow_ii, fNeg_i, fLe_ii, fGt_ii, fGe_ii, fLt_ii, fEq_ii, fEq_ss, fEq_bb, gLen_t, gLen_l, gLen_f, gInt_i, gInt_b, gBool_b, gList_t, gList_l, gList_f, gTuple_t, gTuple_l, gSum_t, gSum_l, fIx_t, fIx_l, fIx_f, fSl_t, fSl_l, fSl_f, fRev_t, fRev_l, wipeD_n, wipeD_c, mPN_e, mPS_e, mSl_e, mDct_e, mChain_e, gMax2_ii, fMulO_li, fMulT_e, iR2_e, fEqN_l, mLst_7, mLst_8, mLst_9, mLst_10, mLst_11, mLst_12, mLst_13, mLst_14, mLst_15, mLst_16, mLst_17, mLst_18, mLst_19, mLst_20, mDcx_e, mMeth_e, mMeth0_e, tyM_str, true_and, mLstO_0, mLstO_1, mLstO_2, mLstO_3, mLstO_4, mTup_4, mLstO_5, mLst_5, mTup_5, mLstO_6, mLst_6, mTup_6, gIsi_non_int, gIsi_non_bool, gIsi_non_tuple, gIsi_non_str, gIsi_non_list, fIs_non, gIsi_bl_int, gIsi_bl_bool, gIsi_bl_tuple, gIsi_bl_str, gIsi_bl_list, fIs_bl, gIsi_int_int, gIsi_int_bool, gIsi_int_tuple, gIsi_int_str, gIsi_int_list, fIs_int, gIsi_str_int, gIsi_str_bool, gIsi_str_tuple, gIsi_str_str, gIsi_str_list, fIs_str, gIsi_tup_int, gIsi_tup_bool, gIsi_tup_tuple, gIsi_tup_str, gIsi_tup_list, fIs_tup, gIsi_lst_int, gIsi_lst_bool, gIsi_lst_tuple, gIsi_lst_str, gIsi_lst_list, fIs_lst, gIsi_frz_int, gIsi_frz_bool, gIsi_frz_tuple, gIsi_frz_str, gIsi_frz_list, fIs_frz, gIsi_dct_int, gIsi_dct_bool, gIsi_dct_tuple, gIsi_dct_str, gIsi_dct_list, fIs_dct]
  exact q
end LB
namespace LB
open PySem PySem.Spec PyProof.Rows L2 DL PySem.W TL
theorem goodsS_head {g : Nat} (h0 : 0 < g) (h4 : g ≤ 4) : goodsS (headT g) = g := by
  have : g = 1 ∨ g = 2 ∨ g = 3 ∨ g = 4 := by omega
  rcases this with rfl | rfl | rfl | rfl <;> decide +kernel
theorem dig_sI {i : Int} (h0 : 0 ≤ i) (h1 : i ≤ 3) : digS (sI i) = some i := by
  unfold digS
  rw [sI_tl h0 (by omega)]
  show (if 48 ≤ 48 + i.toNat ∧ 48 + i.toNat ≤ 52 then some (((48 + i.toNat : Nat) : Int) - 48) else none) = some i
  rw [if_pos (by omega)]
  congr 1
  omega
theorem bagS_sA {a : List Int} (h : In0 a) (hs : a.sum ≤ 4) : bagS (sA a) = some a := by
  have e1 : (sA a).all (fun w => (digS w).isSome) = true := by
    rw [List.all_eq_true]
    intro w hw
    obtain ⟨x, hx, rfl⟩ := List.mem_map.mp hw
    rw [dig_sI (h x hx).1 (h x hx).2]
    rfl
  have e2 : bagL (sA a) = a := by
    unfold bagL sA
    rw [List.map_map]
    refine (List.map_congr_left (g := id) fun x hx => ?_).trans (List.map_id a)
    show (digS (sI x)).getD 0 = x
    rw [dig_sI (h x hx).1 (h x hx).2]
    rfl
  have e3 : a.all (fun x => decide (x ≤ 3)) = true := by
    rw [List.all_eq_true]
    intro x hx
    exact decide_eq_true (h x hx).2
  unfold bagS
  rw [e1, if_pos rfl, e2, e3, decide_eq_true hs]
  rfl
theorem tradeS_line {g : Nat} {r : Rl} (hg : 0 < g) (G : GoodT g 4 r) : tradeS (lineT r) g = some r := by
  have n1 : r.1 ≠ [] := fun z => by
    have := G.l1
    rw [z] at this
    simp at this
    omega
  have n2 : r.2 ≠ [] := fun z => by
    have := G.l2
    rw [z] at this
    simp at this
    omega
  unfold tradeS
  rw [line_split n1 n2 (in9 G.a1) (in9 G.a2)]
  have lA : (sA r.1).length = g := by
    unfold sA
    rw [List.length_map, G.l1]
  have lB : (sA r.2).length = g := by
    unfold sA
    rw [List.length_map, G.l2]
  have e1 : (wordsT r).length = 2 * g + 1 := by
    unfold wordsT
    rw [List.length_append, List.length_append, lA, lB, List.length_singleton]
    omega
  have e2 : (wordsT r)[g]? = some (Str.ofString "=") := by
    unfold wordsT
    rw [List.append_assoc, List.getElem?_append_right (by omega), lA, Nat.sub_self]
    rfl
  have e3 : (wordsT r).take g = sA r.1 := by
    unfold wordsT
    rw [List.append_assoc, List.take_append_of_le_length (by omega), List.take_of_length_le (by omega)]
  have e4 : (wordsT r).drop (g + 1) = sA r.2 := by
    unfold wordsT
    rw [List.drop_append_of_le_length (by rw [List.length_append, lA]; simp), List.drop_of_length_le (by rw [List.length_append, lA]; simp)]
    rfl
  rw [if_pos ⟨e1, e2⟩, e3, e4, bagS_sA G.a1 G.s1, bagS_sA G.a2 G.s2]
theorem mText_len {g : Nat} {ts : List Rl} (T : TextM g ts) : (mText g ts).length ≤ 1000 := by
  unfold mText
  rw [join_eq]
  have h := PySem.StrLaws.join_length_le (Str.ofString "\n") (headT g :: ts.map lineT)
  have h2 := sum_le_len T.lines
  have h1 : (Str.ofString "\n").length = 1 := by decide +kernel
  have h3 : (headT g :: ts.map lineT).length ≤ 5 := by
    have := T.len
    simp
    omega
  rw [h1] at h
  omega
theorem strsV_cons (x : Str) (xs : List Str) : strsV (x :: xs) = .str x :: strsV xs := rfl
end LB
namespace G_k06
open PySem PySem.Spec PyProof.Rows L2 DL LB PySem.W TL
/-! ### what the program reads -/
inductive Rd where
  | ok (g : Nat) (ts : List Rl)
  | bad (k : Nat)
def readL (g : Nat) : Nat → List Str → List Rl → Rd
  | _, [], acc => .ok g acc
  | k, l :: ls, acc => match tradeS l g with
    | none => .bad (k + 1)
    | some r => if k = 4 then .bad (k + 1) else readL g (k + 1) ls (acc ++ [r])
def readS (x : Str) : Rd := match Txt.split x (Str.ofString "\n") with
  | [] => .bad 0
  | l :: ls => if goodsS l = 0 then .bad 0 else readL (goodsS l) 0 ls []
def foundV : Rd → DV
  | .ok g ts => .lst [.str "ok", mV g ts]
  | .bad k => .lst [.str "bad", .int k]
theorem split_ne (x y : Str) : Txt.split x y ≠ [] := by
  unfold Txt.split
  split
  · simp
  · split
    · simp
    · intro h
      have h2 := congrArg List.length h
      rw [length_partsBetween] at h2
      simp at h2
def rdQ (Q : MK DV) (E : MX) (S : Store) : Rd → Prop
  | .ok g ts => Q (mV g ts) S
  | .bad k => E ⟨"BadText", some [("line", .int k)]⟩ S
theorem read_ok {x : Str} {S : Store} {Q : MK DV} {E : MX} (hx : x.length ≤ 1000000) (q : ∀ ds, rdQ Q E (S ++ [some (.lst ds)]) (readS x)) : m_read_market [.str x] S Q E := by
  simp only [app4 m_read_market_e, app3 b_read_market_e, mBody_e, startD_e, mNext_e, mSeq_e, mExpr_e, mRet_e, mRetN_e, mIfS_e, mBreak_e, mCont_e, mSet_e, mAsg_e, mPar2_e, mPar3_e, mVar_e, slot_0, slot_s, mC_e, mOp_e, mUn_e, mT_e, mAnd_e, mOr_e, mNot_e, mAndV_e, mOrV_e, mNotV_e, mIf_e, mTup_0, mTup_1, mTup_2, mTup_3, mLst_0, mLst_1, mLst_2, mLst_3, mLst_4, mCall_1, mCall_2, mCallF_1, mCallF_2, mCallF_3, mCallF_4, mFor_e, iR1_e, iZ_e, iE_e, iS_e, mLc_e, mLcO_e, mYes_e, gTg_e, bindT_nm, bindT_1, bindT_2, bindT_3, onEnv_s, onInt_i, onBl_b, onSeq_t, onSeq_l, onSeq_f, onZip_t, onZip_l, onEnum_t, onEnum_l, onT_t, onT_f, onSome_s, fAdd_ii, fAdd_tt, fAdd_ll, fAdd_ss, fSub_ii, fMul_ii, fMul_li, fDiv_ii, fMod_ii, fPow_ii, fNeg_i, fLe_ii, fGt_ii, fGe_ii, fLt_ii, fEq_ii, fEq_ss, fEq_bb, gLen_t, gLen_l, gLen_f, gInt_i, gInt_b, gBool_b, gList_t, gList_l, gList_f, gTuple_t, gTuple_l, gSum_t, gSum_l, fIx_t, fIx_l, fIx_f, fSl_t, fSl_l, fSl_f, fRev_t, fRev_l, wipeD_n, wipeD_c, mPN_e, mPS_e, mSl_e, mDct_e, mChain_e, gMax2_ii, fMulO_li, fMulT_e, iR2_e, fEqN_l, mLst_7, mLst_8, mLst_9, mLst_10, mLst_11, mLst_12, mLst_13, mLst_14, mLst_15, mLst_16, mLst_17, mLst_18, mLst_19, mLst_20, mDcx_e, mMeth_e, mMeth0_e, tyM_str, true_and, mLstO_0, mLstO_1, mLstO_2, mLstO_3, mLstO_4, mTup_4, mLstO_5, mLst_5, mTup_5, mLstO_6, mLst_6, mTup_6, gIsi_non_int, gIsi_non_bool, gIsi_non_tuple, gIsi_non_str, gIsi_non_list, fIs_non, gIsi_bl_int, gIsi_bl_bool, gIsi_bl_tuple, gIsi_bl_str, gIsi_bl_list, fIs_bl, gIsi_int_int, gIsi_int_bool, gIsi_int_tuple, gIsi_int_str, gIsi_int_list, fIs_int, gIsi_str_int, gIsi_str_bool, gIsi_str_tuple, gIsi_str_str, gIsi_str_list, fIs_str, gIsi_tup_int, gIsi_tup_bool, gIsi_tup_tuple, gIsi_tup_str, gIsi_tup_list, fIs_tup, gIsi_lst_int, gIsi_lst_bool, gIsi_lst_tuple, gIsi_lst_str, gIsi_lst_list, fIs_lst, gIsi_frz_int, gIsi_frz_bool, gIsi_frz_tuple, gIsi_frz_str, gIsi_frz_list, fIs_frz, gIsi_dct_int, gIsi_dct_bool, gIsi_dct_tuple, gIsi_dct_str, gIsi_dct_list, fIs_dct, List.map_cons, List.map_nil, List.length_cons, List.length_nil, List.cons_append, List.nil_append, List.set_cons_zero, List.set_cons_succ, List.replicate_zero, List.replicate_succ, Bool.not_true, app3 r_read_market_7_e]
  refine ⟨_, _, rfl, rfl, by decide +kernel, by omega, ?_⟩
  have hl : ∀ w ∈ Txt.split x (Str.ofString "\n"), w.length ≤ 1000000 := fun w hw => by
    have := len_split hw
    omega
  have hc : (Txt.split x (Str.ofString "\n")).length ≤ 1000002 := by
    have := PyProof.Rows.split_le x (Str.ofString "\n")
    omega
  have hn := split_ne x (Str.ofString "\n")
  unfold readS at q
  generalize Txt.split x (Str.ofString "\n") = ls at q hl hn hc ⊢
  cases ls with
  | nil => exact absurd rfl hn
  | cons l ls =>
    have q' : ∀ ds, rdQ Q E (S ++ [some (.lst ds)]) (if goodsS l = 0 then .bad 0 else readL (goodsS l) 0 ls []) := q
    rw [strsV_cons]
    simp only [app3 r_read_market_6_e, mBody_e, startD_e, mNext_e, mSeq_e, mExpr_e, mRet_e, mRetN_e, mIfS_e, mBreak_e, mCont_e, mSet_e, mAsg_e, mPar2_e, mPar3_e, mVar_e, slot_0, slot_s, mC_e, mOp_e, mUn_e, mT_e, mAnd_e, mOr_e, mNot_e, mAndV_e, mOrV_e, mNotV_e, mIf_e, mTup_0, mTup_1, mTup_2, mTup_3, mLst_0, mLst_1, mLst_2, mLst_3, mLst_4, mCall_1, mCall_2, mCallF_1, mCallF_2, mCallF_3, mCallF_4, mFor_e, iR1_e, iZ_e, iE_e, iS_e, mLc_e, mLcO_e, mYes_e, gTg_e, bindT_nm, bindT_1, bindT_2, bindT_3, onEnv_s, onInt_i, onBl_b, onSeq_t, onSeq_l, onSeq_f, onZip_t, onZip_l, onEnum_t, onEnum_l, onT_t, onT_f, onSome_s, fAdd_ii, fAdd_tt, fAdd_ll, fAdd_ss, fSub_ii, fMul_ii, fMul_li, fDiv_ii, fMod_ii, fPow_ii, fNeg_i, fLe_ii, fGt_ii, fGe_ii, fLt_ii, fEq_ii, fEq_ss, fEq_bb, gLen_t, gLen_l, gLen_f, gInt_i, gInt_b, gBool_b, gList_t, gList_l, gList_f, gTuple_t, gTuple_l, gSum_t, gSum_l, fIx_t, fIx_l, fIx_f, fSl_t, fSl_l, fSl_f, fRev_t, fRev_l, wipeD_n, wipeD_c, mPN_e, mPS_e, mSl_e, mDct_e, mChain_e, gMax2_ii, fMulO_li, fMulT_e, iR2_e, fEqN_l, mLst_7, mLst_8, mLst_9, mLst_10, mLst_11, mLst_12, mLst_13, mLst_14, mLst_15, mLst_16, mLst_17, mLst_18, mLst_19, mLst_20, mDcx_e, mMeth_e, mMeth0_e, tyM_str, true_and, mLstO_0, mLstO_1, mLstO_2, mLstO_3, mLstO_4, mTup_4, mLstO_5, mLst_5, mTup_5, mLstO_6, mLst_6, mTup_6, gIsi_non_int, gIsi_non_bool, gIsi_non_tuple, gIsi_non_str, gIsi_non_list, fIs_non, gIsi_bl_int, gIsi_bl_bool, gIsi_bl_tuple, gIsi_bl_str, gIsi_bl_list, fIs_bl, gIsi_int_int, gIsi_int_bool, gIsi_int_tuple, gIsi_int_str, gIsi_int_list, fIs_int, gIsi_str_int, gIsi_str_bool, gIsi_str_tuple, gIsi_str_str, gIsi_str_list, fIs_str, gIsi_tup_int, gIsi_tup_bool, gIsi_tup_tuple, gIsi_tup_str, gIsi_tup_list, fIs_tup, gIsi_lst_int, gIsi_lst_bool, gIsi_lst_tuple, gIsi_lst_str, gIsi_lst_list, fIs_lst, gIsi_frz_int, gIsi_frz_bool, gIsi_frz_tuple, gIsi_frz_str, gIsi_frz_list, fIs_frz, gIsi_dct_int, gIsi_dct_bool, gIsi_dct_tuple, gIsi_dct_str, gIsi_dct_list, fIs_dct, List.map_cons, List.map_nil, List.length_cons, List.length_nil, List.cons_append, List.nil_append, List.set_cons_zero, List.set_cons_succ, List.replicate_zero, List.replicate_succ, atI_0]
    refine read_goods_ok ?_
    simp only [mBody_e, startD_e, mNext_e, mSeq_e, mExpr_e, mRet_e, mRetN_e, mIfS_e, mBreak_e, mCont_e, mSet_e, mAsg_e, mPar2_e, mPar3_e, mVar_e, slot_0, slot_s, mC_e, mOp_e, mUn_e, mT_e, mAnd_e, mOr_e, mNot_e, mAndV_e, mOrV_e, mNotV_e, mIf_e, mTup_0, mTup_1, mTup_2, mTup_3, mLst_0, mLst_1, mLst_2, mLst_3, mLst_4, mCall_1, mCall_2, mCallF_1, mCallF_2, mCallF_3, mCallF_4, mFor_e, iR1_e, iZ_e, iE_e, iS_e, mLc_e, mLcO_e, mYes_e, gTg_e, bindT_nm, bindT_1, bindT_2, bindT_3, onEnv_s, onInt_i, onBl_b, onSeq_t, onSeq_l, onSeq_f, onZip_t, onZip_l, onEnum_t, onEnum_l, onT_t, onT_f, onSome_s, fAdd_ii, fAdd_tt, fAdd_ll, fAdd_ss, fSub_ii, fMul_ii, fMul_li, fDiv_ii, fMod_ii, fPow_ii, fNeg_i, fLe_ii, fGt_ii, fGe_ii, fLt_ii, fEq_ii, fEq_ss, fEq_bb, gLen_t, gLen_l, gLen_f, gInt_i, gInt_b, gBool_b, gList_t, gList_l, gList_f, gTuple_t, gTuple_l, gSum_t, gSum_l, fIx_t, fIx_l, fIx_f, fSl_t, fSl_l, fSl_f, fRev_t, fRev_l, wipeD_n, wipeD_c, mPN_e, mPS_e, mSl_e, mDct_e, mChain_e, gMax2_ii, fMulO_li, fMulT_e, iR2_e, fEqN_l, mLst_7, mLst_8, mLst_9, mLst_10, mLst_11, mLst_12, mLst_13, mLst_14, mLst_15, mLst_16, mLst_17, mLst_18, mLst_19, mLst_20, mDcx_e, mMeth_e, mMeth0_e, tyM_str, true_and, mLstO_0, mLstO_1, mLstO_2, mLstO_3, mLstO_4, mTup_4, mLstO_5, mLst_5, mTup_5, mLstO_6, mLst_6, mTup_6, gIsi_non_int, gIsi_non_bool, gIsi_non_tuple, gIsi_non_str, gIsi_non_list, fIs_non, gIsi_bl_int, gIsi_bl_bool, gIsi_bl_tuple, gIsi_bl_str, gIsi_bl_list, fIs_bl, gIsi_int_int, gIsi_int_bool, gIsi_int_tuple, gIsi_int_str, gIsi_int_list, fIs_int, gIsi_str_int, gIsi_str_bool, gIsi_str_tuple, gIsi_str_str, gIsi_str_list, fIs_str, gIsi_tup_int, gIsi_tup_bool, gIsi_tup_tuple, gIsi_tup_str, gIsi_tup_list, fIs_tup, gIsi_lst_int, gIsi_lst_bool, gIsi_lst_tuple, gIsi_lst_str, gIsi_lst_list, fIs_lst, gIsi_frz_int, gIsi_frz_bool, gIsi_frz_tuple, gIsi_frz_str, gIsi_frz_list, fIs_frz, gIsi_dct_int, gIsi_dct_bool, gIsi_dct_tuple, gIsi_dct_str, gIsi_dct_list, fIs_dct, List.map_cons, List.map_nil, List.length_cons, List.length_nil, List.cons_append, List.nil_append, List.set_cons_zero, List.set_cons_succ, List.replicate_zero, List.replicate_succ, app3 r_read_market_5_e]
    by_cases c : goodsS l = 0
    · have c' : ((goodsS l : Nat) : Int) = 0 := by omega
      have q2 := q' []
      rw [if_pos c] at q2
      simp only [decide_eq_true c', mBody_e, startD_e, mNext_e, mSeq_e, mExpr_e, mRet_e, mRetN_e, mIfS_e, mBreak_e, mCont_e, mSet_e, mAsg_e, mPar2_e, mPar3_e, mVar_e, slot_0, slot_s, mC_e, mOp_e, mUn_e, mT_e, mAnd_e, mOr_e, mNot_e, mAndV_e, mOrV_e, mNotV_e, mIf_e, mTup_0, mTup_1, mTup_2, mTup_3, mLst_0, mLst_1, mLst_2, mLst_3, mLst_4, mCall_1, mCall_2, mCallF_1, mCallF_2, mCallF_3, mCallF_4, mFor_e, iR1_e, iZ_e, iE_e, iS_e, mLc_e, mLcO_e, mYes_e, gTg_e, bindT_nm, bindT_1, bindT_2, bindT_3, onEnv_s, onInt_i, onBl_b, onSeq_t, onSeq_l, onSeq_f, onZip_t, onZip_l, onEnum_t, onEnum_l, onT_t, onT_f, onSome_s, fAdd_ii, fAdd_tt, fAdd_ll, fAdd_ss, fSub_ii, fMul_ii, fMul_li, fDiv_ii, fMod_ii, fPow_ii, fNeg_i, fLe_ii, fGt_ii, fGe_ii, fLt_ii, fEq_ii, fEq_ss, fEq_bb, gLen_t, gLen_l, gLen_f, gInt_i, gInt_b, gBool_b, gList_t, gList_l, gList_f, gTuple_t, gTuple_l, gSum_t, gSum_l, fIx_t, fIx_l, fIx_f, fSl_t, fSl_l, fSl_f, fRev_t, fRev_l, wipeD_n, wipeD_c, mPN_e, mPS_e, mSl_e, mDct_e, mChain_e, gMax2_ii, fMulO_li, fMulT_e, iR2_e, fEqN_l, mLst_7, mLst_8, mLst_9, mLst_10, mLst_11, mLst_12, mLst_13, mLst_14, mLst_15, mLst_16, mLst_17, mLst_18, mLst_19, mLst_20, mDcx_e, mMeth_e, mMeth0_e, tyM_str, true_and, mLstO_0, mLstO_1, mLstO_2, mLstO_3, mLstO_4, mTup_4, mLstO_5, mLst_5, mTup_5, mLstO_6, mLst_6, mTup_6, gIsi_non_int, gIsi_non_bool, gIsi_non_tuple, gIsi_non_str, gIsi_non_list, fIs_non, gIsi_bl_int, gIsi_bl_bool, gIsi_bl_tuple, gIsi_bl_str, gIsi_bl_list, fIs_bl, gIsi_int_int, gIsi_int_bool, gIsi_int_tuple, gIsi_int_str, gIsi_int_list, fIs_int, gIsi_str_int, gIsi_str_bool, gIsi_str_tuple, gIsi_str_str, gIsi_str_list, fIs_str, gIsi_tup_int, gIsi_tup_bool, gIsi_tup_tuple, gIsi_tup_str, gIsi_tup_list, fIs_tup, gIsi_lst_int, gIsi_lst_bool, gIsi_lst_tuple, gIsi_lst_str, gIsi_lst_list, fIs_lst, gIsi_frz_int, gIsi_frz_bool, gIsi_frz_tuple, gIsi_frz_str, gIsi_frz_list, fIs_frz, gIsi_dct_int, gIsi_dct_bool, gIsi_dct_tuple, gIsi_dct_str, gIsi_dct_list, fIs_dct, mRaise1]
      exact q2
    · have c' : ¬ ((goodsS l : Nat) : Int) = 0 := by omega
      have q2 := fun ds => q' ds
      rw [if_neg c] at q2
      have g4 : goodsS l ≤ 4 := by
        unfold goodsS
        repeat' split
        all_goals omega
      simp only [decide_eq_false c', mBody_e, startD_e, mNext_e, mSeq_e, mExpr_e, mRet_e, mRetN_e, mIfS_e, mBreak_e, mCont_e, mSet_e, mAsg_e, mPar2_e, mPar3_e, mVar_e, slot_0, slot_s, mC_e, mOp_e, mUn_e, mT_e, mAnd_e, mOr_e, mNot_e, mAndV_e, mOrV_e, mNotV_e, mIf_e, mTup_0, mTup_1, mTup_2, mTup_3, mLst_0, mLst_1, mLst_2, mLst_3, mLst_4, mCall_1, mCall_2, mCallF_1, mCallF_2, mCallF_3, mCallF_4, mFor_e, iR1_e, iZ_e, iE_e, iS_e, mLc_e, mLcO_e, mYes_e, gTg_e, bindT_nm, bindT_1, bindT_2, bindT_3, onEnv_s, onInt_i, onBl_b, onSeq_t, onSeq_l, onSeq_f, onZip_t, onZip_l, onEnum_t, onEnum_l, onT_t, onT_f, onSome_s, fAdd_ii, fAdd_tt, fAdd_ll, fAdd_ss, fSub_ii, fMul_ii, fMul_li, fDiv_ii, fMod_ii, fPow_ii, fNeg_i, fLe_ii, fGt_ii, fGe_ii, fLt_ii, fEq_ii, fEq_ss, fEq_bb, gLen_t, gLen_l, gLen_f, gInt_i, gInt_b, gBool_b, gList_t, gList_l, gList_f, gTuple_t, gTuple_l, gSum_t, gSum_l, fIx_t, fIx_l, fIx_f, fSl_t, fSl_l, fSl_f, fRev_t, fRev_l, wipeD_n, wipeD_c, mPN_e, mPS_e, mSl_e, mDct_e, mChain_e, gMax2_ii, fMulO_li, fMulT_e, iR2_e, fEqN_l, mLst_7, mLst_8, mLst_9, mLst_10, mLst_11, mLst_12, mLst_13, mLst_14, mLst_15, mLst_16, mLst_17, mLst_18, mLst_19, mLst_20, mDcx_e, mMeth_e, mMeth0_e, tyM_str, true_and, mLstO_0, mLstO_1, mLstO_2, mLstO_3, mLstO_4, mTup_4, mLstO_5, mLst_5, mTup_5, mLstO_6, mLst_6, mTup_6, gIsi_non_int, gIsi_non_bool, gIsi_non_tuple, gIsi_non_str, gIsi_non_list, fIs_non, gIsi_bl_int, gIsi_bl_bool, gIsi_bl_tuple, gIsi_bl_str, gIsi_bl_list, fIs_bl, gIsi_int_int, gIsi_int_bool, gIsi_int_tuple, gIsi_int_str, gIsi_int_list, fIs_int, gIsi_str_int, gIsi_str_bool, gIsi_str_tuple, gIsi_str_str, gIsi_str_list, fIs_str, gIsi_tup_int, gIsi_tup_bool, gIsi_tup_tuple, gIsi_tup_str, gIsi_tup_list, fIs_tup, gIsi_lst_int, gIsi_lst_bool, gIsi_lst_tuple, gIsi_lst_str, gIsi_lst_list, fIs_lst, gIsi_frz_int, gIsi_frz_bool, gIsi_frz_tuple, gIsi_frz_str, gIsi_frz_list, fIs_frz, gIsi_dct_int, gIsi_dct_bool, gIsi_dct_tuple, gIsi_dct_str, gIsi_dct_list, fIs_dct, app3 r_read_market_4_e, List.map_cons, List.map_nil, List.length_cons, List.length_nil, List.cons_append, List.nil_append, List.set_cons_zero, List.set_cons_succ, List.replicate_zero, List.replicate_succ]
      have e1 : DL.cutD (.str l :: strsV ls) (some 1) none = strsV ls := by
        have := cut_drop (ds := .str l :: strsV ls) (k := 1)
        simpa using this
      rw [e1]
      generalize goodsS l = g at c q2 g4
      have key : ∀ (ls : List Str) (k : Nat) (acc : List Rl) (d0 d1 d4 d5 d6 : Option DV) (D : EndsD), D.rt = Q → (∀ x δ S, D.ex x δ S = E x S) → (∀ w ∈ ls, w.length ≤ 1000000) → acc.length + ls.length ≤ 1000002 → (∀ ds, rdQ Q E (S ++ [some (.lst ds)]) (readL g k ls acc)) →
          forGo (gTg (.tp [.nm 4, .nm 5])) f_read_market_1 { D with nx := r_read_market_3 D } (enum k (strsV ls)) [d0, d1, some (.int g), some (.ref S.length), d4, d5, d6] (S ++ [some (.lst (rsV acc))]) := by
        intro ls
        induction ls with
        | nil =>
          intro k acc d0 d1 d4 d5 d6 D hD hE _ _ hq
          show r_read_market_3 D _ _
          simp only [app3 r_read_market_3_e, mBody_e, startD_e, mNext_e, mSeq_e, mExpr_e, mRet_e, mRetN_e, mIfS_e, mBreak_e, mCont_e, mSet_e, mAsg_e, mPar2_e, mPar3_e, mVar_e, slot_0, slot_s, mC_e, mOp_e, mUn_e, mT_e, mAnd_e, mOr_e, mNot_e, mAndV_e, mOrV_e, mNotV_e, mIf_e, mTup_0, mTup_1, mTup_2, mTup_3, mLst_0, mLst_1, mLst_2, mLst_3, mLst_4, mCall_1, mCall_2, mCallF_1, mCallF_2, mCallF_3, mCallF_4, mFor_e, iR1_e, iZ_e, iE_e, iS_e, mLc_e, mLcO_e, mYes_e, gTg_e, bindT_nm, bindT_1, bindT_2, bindT_3, onEnv_s, onInt_i, onBl_b, onSeq_t, onSeq_l, onSeq_f, onZip_t, onZip_l, onEnum_t, onEnum_l, onT_t, onT_f, onSome_s, fAdd_ii, fAdd_tt, fAdd_ll, fAdd_ss, fSub_ii, fMul_ii, fMul_li, fDiv_ii, fMod_ii, fPow_ii, fNeg_i, fLe_ii, fGt_ii, fGe_ii, fLt_ii, fEq_ii, fEq_ss, fEq_bb, gLen_t, gLen_l, gLen_f, gInt_i, gInt_b, gBool_b, gList_t, gList_l, gList_f, gTuple_t, gTuple_l, gSum_t, gSum_l, fIx_t, fIx_l, fIx_f, fSl_t, fSl_l, fSl_f, fRev_t, fRev_l, wipeD_n, wipeD_c, mPN_e, mPS_e, mSl_e, mDct_e, mChain_e, gMax2_ii, fMulO_li, fMulT_e, iR2_e, fEqN_l, mLst_7, mLst_8, mLst_9, mLst_10, mLst_11, mLst_12, mLst_13, mLst_14, mLst_15, mLst_16, mLst_17, mLst_18, mLst_19, mLst_20, mDcx_e, mMeth_e, mMeth0_e, tyM_str, true_and, mLstO_0, mLstO_1, mLstO_2, mLstO_3, mLstO_4, mTup_4, mLstO_5, mLst_5, mTup_5, mLstO_6, mLst_6, mTup_6, gIsi_non_int, gIsi_non_bool, gIsi_non_tuple, gIsi_non_str, gIsi_non_list, fIs_non, gIsi_bl_int, gIsi_bl_bool, gIsi_bl_tuple, gIsi_bl_str, gIsi_bl_list, fIs_bl, gIsi_int_int, gIsi_int_bool, gIsi_int_tuple, gIsi_int_str, gIsi_int_list, fIs_int, gIsi_str_int, gIsi_str_bool, gIsi_str_tuple, gIsi_str_str, gIsi_str_list, fIs_str, gIsi_tup_int, gIsi_tup_bool, gIsi_tup_tuple, gIsi_tup_str, gIsi_tup_list, fIs_tup, gIsi_lst_int, gIsi_lst_bool, gIsi_lst_tuple, gIsi_lst_str, gIsi_lst_list, fIs_lst, gIsi_frz_int, gIsi_frz_bool, gIsi_frz_tuple, gIsi_frz_str, gIsi_frz_list, fIs_frz, gIsi_dct_int, gIsi_dct_bool, gIsi_dct_tuple, gIsi_dct_str, gIsi_dct_list, fIs_dct, List.map_cons, List.map_nil, List.length_cons, List.length_nil, List.cons_append, List.nil_append, List.set_cons_zero, List.set_cons_succ, List.replicate_zero, List.replicate_succ, hD]
          rw [ref_tuple get_last]
          exact hq _
        | cons w ls ih =>
          intro k acc d0 d1 d4 d5 d6 D hD hE hw hlen hq
          rw [List.length_cons] at hlen
          show forGo _ _ _ (.tup [.int (k : Nat), .str w] :: enum (k + 1) (strsV ls)) _ _
          simp only [forGo_c, app3 f_read_market_1_e, mBody_e, startD_e, mNext_e, mSeq_e, mExpr_e, mRet_e, mRetN_e, mIfS_e, mBreak_e, mCont_e, mSet_e, mAsg_e, mPar2_e, mPar3_e, mVar_e, slot_0, slot_s, mC_e, mOp_e, mUn_e, mT_e, mAnd_e, mOr_e, mNot_e, mAndV_e, mOrV_e, mNotV_e, mIf_e, mTup_0, mTup_1, mTup_2, mTup_3, mLst_0, mLst_1, mLst_2, mLst_3, mLst_4, mCall_1, mCall_2, mCallF_1, mCallF_2, mCallF_3, mCallF_4, mFor_e, iR1_e, iZ_e, iE_e, iS_e, mLc_e, mLcO_e, mYes_e, gTg_e, bindT_nm, bindT_1, bindT_2, bindT_3, onEnv_s, onInt_i, onBl_b, onSeq_t, onSeq_l, onSeq_f, onZip_t, onZip_l, onEnum_t, onEnum_l, onT_t, onT_f, onSome_s, fAdd_ii, fAdd_tt, fAdd_ll, fAdd_ss, fSub_ii, fMul_ii, fMul_li, fDiv_ii, fMod_ii, fPow_ii, fNeg_i, fLe_ii, fGt_ii, fGe_ii, fLt_ii, fEq_ii, fEq_ss, fEq_bb, gLen_t, gLen_l, gLen_f, gInt_i, gInt_b, gBool_b, gList_t, gList_l, gList_f, gTuple_t, gTuple_l, gSum_t, gSum_l, fIx_t, fIx_l, fIx_f, fSl_t, fSl_l, fSl_f, fRev_t, fRev_l, wipeD_n, wipeD_c, mPN_e, mPS_e, mSl_e, mDct_e, mChain_e, gMax2_ii, fMulO_li, fMulT_e, iR2_e, fEqN_l, mLst_7, mLst_8, mLst_9, mLst_10, mLst_11, mLst_12, mLst_13, mLst_14, mLst_15, mLst_16, mLst_17, mLst_18, mLst_19, mLst_20, mDcx_e, mMeth_e, mMeth0_e, tyM_str, true_and, mLstO_0, mLstO_1, mLstO_2, mLstO_3, mLstO_4, mTup_4, mLstO_5, mLst_5, mTup_5, mLstO_6, mLst_6, mTup_6, gIsi_non_int, gIsi_non_bool, gIsi_non_tuple, gIsi_non_str, gIsi_non_list, fIs_non, gIsi_bl_int, gIsi_bl_bool, gIsi_bl_tuple, gIsi_bl_str, gIsi_bl_list, fIs_bl, gIsi_int_int, gIsi_int_bool, gIsi_int_tuple, gIsi_int_str, gIsi_int_list, fIs_int, gIsi_str_int, gIsi_str_bool, gIsi_str_tuple, gIsi_str_str, gIsi_str_list, fIs_str, gIsi_tup_int, gIsi_tup_bool, gIsi_tup_tuple, gIsi_tup_str, gIsi_tup_list, fIs_tup, gIsi_lst_int, gIsi_lst_bool, gIsi_lst_tuple, gIsi_lst_str, gIsi_lst_list, fIs_lst, gIsi_frz_int, gIsi_frz_bool, gIsi_frz_tuple, gIsi_frz_str, gIsi_frz_list, fIs_frz, gIsi_dct_int, gIsi_dct_bool, gIsi_dct_tuple, gIsi_dct_str, gIsi_dct_list, fIs_dct, List.map_cons, List.map_nil, List.length_cons, List.length_nil, List.cons_append, List.nil_append, List.set_cons_zero, List.set_cons_succ, List.replicate_zero, List.replicate_succ]
          refine read_trade_ok (by omega) g4 (by have := hw w List.mem_cons_self; omega) ?_
          unfold readL at hq
          cases ht : tradeS w g with
          | none =>
            rw [ht] at hq
            simp only [optR, app3 r_read_market_2_e, mBody_e, startD_e, mNext_e, mSeq_e, mExpr_e, mRet_e, mRetN_e, mIfS_e, mBreak_e, mCont_e, mSet_e, mAsg_e, mPar2_e, mPar3_e, mVar_e, slot_0, slot_s, mC_e, mOp_e, mUn_e, mT_e, mAnd_e, mOr_e, mNot_e, mAndV_e, mOrV_e, mNotV_e, mIf_e, mTup_0, mTup_1, mTup_2, mTup_3, mLst_0, mLst_1, mLst_2, mLst_3, mLst_4, mCall_1, mCall_2, mCallF_1, mCallF_2, mCallF_3, mCallF_4, mFor_e, iR1_e, iZ_e, iE_e, iS_e, mLc_e, mLcO_e, mYes_e, gTg_e, bindT_nm, bindT_1, bindT_2, bindT_3, onEnv_s, onInt_i, onBl_b, onSeq_t, onSeq_l, onSeq_f, onZip_t, onZip_l, onEnum_t, onEnum_l, onT_t, onT_f, onSome_s, fAdd_ii, fAdd_tt, fAdd_ll, fAdd_ss, fSub_ii, fMul_ii, fMul_li, fDiv_ii, fMod_ii, fPow_ii, fNeg_i, fLe_ii, fGt_ii, fGe_ii, fLt_ii, fEq_ii, fEq_ss, fEq_bb, gLen_t, gLen_l, gLen_f, gInt_i, gInt_b, gBool_b, gList_t, gList_l, gList_f, gTuple_t, gTuple_l, gSum_t, gSum_l, fIx_t, fIx_l, fIx_f, fSl_t, fSl_l, fSl_f, fRev_t, fRev_l, wipeD_n, wipeD_c, mPN_e, mPS_e, mSl_e, mDct_e, mChain_e, gMax2_ii, fMulO_li, fMulT_e, iR2_e, fEqN_l, mLst_7, mLst_8, mLst_9, mLst_10, mLst_11, mLst_12, mLst_13, mLst_14, mLst_15, mLst_16, mLst_17, mLst_18, mLst_19, mLst_20, mDcx_e, mMeth_e, mMeth0_e, tyM_str, true_and, mLstO_0, mLstO_1, mLstO_2, mLstO_3, mLstO_4, mTup_4, mLstO_5, mLst_5, mTup_5, mLstO_6, mLst_6, mTup_6, gIsi_non_int, gIsi_non_bool, gIsi_non_tuple, gIsi_non_str, gIsi_non_list, fIs_non, gIsi_bl_int, gIsi_bl_bool, gIsi_bl_tuple, gIsi_bl_str, gIsi_bl_list, fIs_bl, gIsi_int_int, gIsi_int_bool, gIsi_int_tuple, gIsi_int_str, gIsi_int_list, fIs_int, gIsi_str_int, gIsi_str_bool, gIsi_str_tuple, gIsi_str_str, gIsi_str_list, fIs_str, gIsi_tup_int, gIsi_tup_bool, gIsi_tup_tuple, gIsi_tup_str, gIsi_tup_list, fIs_tup, gIsi_lst_int, gIsi_lst_bool, gIsi_lst_tuple, gIsi_lst_str, gIsi_lst_list, fIs_lst, gIsi_frz_int, gIsi_frz_bool, gIsi_frz_tuple, gIsi_frz_str, gIsi_frz_list, fIs_frz, gIsi_dct_int, gIsi_dct_bool, gIsi_dct_tuple, gIsi_dct_str, gIsi_dct_list, fIs_dct, List.map_cons, List.map_nil, List.length_cons, List.length_nil, List.cons_append, List.nil_append, List.set_cons_zero, List.set_cons_succ, List.replicate_zero, List.replicate_succ, mRaise1, hE]
            exact hq _
          | some r =>
            rw [ht] at hq
            have hq' : ∀ ds, rdQ Q E (S ++ [some (.lst ds)]) (if k = 4 then .bad (k + 1) else readL g (k + 1) ls (acc ++ [r])) := hq
            simp only [optR, app3 r_read_market_2_e, mBody_e, startD_e, mNext_e, mSeq_e, mExpr_e, mRet_e, mRetN_e, mIfS_e, mBreak_e, mCont_e, mSet_e, mAsg_e, mPar2_e, mPar3_e, mVar_e, slot_0, slot_s, mC_e, mOp_e, mUn_e, mT_e, mAnd_e, mOr_e, mNot_e, mAndV_e, mOrV_e, mNotV_e, mIf_e, mTup_0, mTup_1, mTup_2, mTup_3, mLst_0, mLst_1, mLst_2, mLst_3, mLst_4, mCall_1, mCall_2, mCallF_1, mCallF_2, mCallF_3, mCallF_4, mFor_e, iR1_e, iZ_e, iE_e, iS_e, mLc_e, mLcO_e, mYes_e, gTg_e, bindT_nm, bindT_1, bindT_2, bindT_3, onEnv_s, onInt_i, onBl_b, onSeq_t, onSeq_l, onSeq_f, onZip_t, onZip_l, onEnum_t, onEnum_l, onT_t, onT_f, onSome_s, fAdd_ii, fAdd_tt, fAdd_ll, fAdd_ss, fSub_ii, fMul_ii, fMul_li, fDiv_ii, fMod_ii, fPow_ii, fNeg_i, fLe_ii, fGt_ii, fGe_ii, fLt_ii, fEq_ii, fEq_ss, fEq_bb, gLen_t, gLen_l, gLen_f, gInt_i, gInt_b, gBool_b, gList_t, gList_l, gList_f, gTuple_t, gTuple_l, gSum_t, gSum_l, fIx_t, fIx_l, fIx_f, fSl_t, fSl_l, fSl_f, fRev_t, fRev_l, wipeD_n, wipeD_c, mPN_e, mPS_e, mSl_e, mDct_e, mChain_e, gMax2_ii, fMulO_li, fMulT_e, iR2_e, fEqN_l, mLst_7, mLst_8, mLst_9, mLst_10, mLst_11, mLst_12, mLst_13, mLst_14, mLst_15, mLst_16, mLst_17, mLst_18, mLst_19, mLst_20, mDcx_e, mMeth_e, mMeth0_e, tyM_str, true_and, mLstO_0, mLstO_1, mLstO_2, mLstO_3, mLstO_4, mTup_4, mLstO_5, mLst_5, mTup_5, mLstO_6, mLst_6, mTup_6, gIsi_non_int, gIsi_non_bool, gIsi_non_tuple, gIsi_non_str, gIsi_non_list, fIs_non, gIsi_bl_int, gIsi_bl_bool, gIsi_bl_tuple, gIsi_bl_str, gIsi_bl_list, fIs_bl, gIsi_int_int, gIsi_int_bool, gIsi_int_tuple, gIsi_int_str, gIsi_int_list, fIs_int, gIsi_str_int, gIsi_str_bool, gIsi_str_tuple, gIsi_str_str, gIsi_str_list, fIs_str, gIsi_tup_int, gIsi_tup_bool, gIsi_tup_tuple, gIsi_tup_str, gIsi_tup_list, fIs_tup, gIsi_lst_int, gIsi_lst_bool, gIsi_lst_tuple, gIsi_lst_str, gIsi_lst_list, fIs_lst, gIsi_frz_int, gIsi_frz_bool, gIsi_frz_tuple, gIsi_frz_str, gIsi_frz_list, fIs_frz, gIsi_dct_int, gIsi_dct_bool, gIsi_dct_tuple, gIsi_dct_str, gIsi_dct_list, fIs_dct, List.map_cons, List.map_nil, List.length_cons, List.length_nil, List.cons_append, List.nil_append, List.set_cons_zero, List.set_cons_succ, List.replicate_zero, List.replicate_succ, rV]
            by_cases c4 : k = 4
            · rw [if_pos c4] at hq'
              rw [decide_eq_true (show (k : Int) = 4 by omega)]
              simp only [mBody_e, startD_e, mNext_e, mSeq_e, mExpr_e, mRet_e, mRetN_e, mIfS_e, mBreak_e, mCont_e, mSet_e, mAsg_e, mPar2_e, mPar3_e, mVar_e, slot_0, slot_s, mC_e, mOp_e, mUn_e, mT_e, mAnd_e, mOr_e, mNot_e, mAndV_e, mOrV_e, mNotV_e, mIf_e, mTup_0, mTup_1, mTup_2, mTup_3, mLst_0, mLst_1, mLst_2, mLst_3, mLst_4, mCall_1, mCall_2, mCallF_1, mCallF_2, mCallF_3, mCallF_4, mFor_e, iR1_e, iZ_e, iE_e, iS_e, mLc_e, mLcO_e, mYes_e, gTg_e, bindT_nm, bindT_1, bindT_2, bindT_3, onEnv_s, onInt_i, onBl_b, onSeq_t, onSeq_l, onSeq_f, onZip_t, onZip_l, onEnum_t, onEnum_l, onT_t, onT_f, onSome_s, fAdd_ii, fAdd_tt, fAdd_ll, fAdd_ss, fSub_ii, fMul_ii, fMul_li, fDiv_ii, fMod_ii, fPow_ii, fNeg_i, fLe_ii, fGt_ii, fGe_ii, fLt_ii, fEq_ii, fEq_ss, fEq_bb, gLen_t, gLen_l, gLen_f, gInt_i, gInt_b, gBool_b, gList_t, gList_l, gList_f, gTuple_t, gTuple_l, gSum_t, gSum_l, fIx_t, fIx_l, fIx_f, fSl_t, fSl_l, fSl_f, fRev_t, fRev_l, wipeD_n, wipeD_c, mPN_e, mPS_e, mSl_e, mDct_e, mChain_e, gMax2_ii, fMulO_li, fMulT_e, iR2_e, fEqN_l, mLst_7, mLst_8, mLst_9, mLst_10, mLst_11, mLst_12, mLst_13, mLst_14, mLst_15, mLst_16, mLst_17, mLst_18, mLst_19, mLst_20, mDcx_e, mMeth_e, mMeth0_e, tyM_str, true_and, mLstO_0, mLstO_1, mLstO_2, mLstO_3, mLstO_4, mTup_4, mLstO_5, mLst_5, mTup_5, mLstO_6, mLst_6, mTup_6, gIsi_non_int, gIsi_non_bool, gIsi_non_tuple, gIsi_non_str, gIsi_non_list, fIs_non, gIsi_bl_int, gIsi_bl_bool, gIsi_bl_tuple, gIsi_bl_str, gIsi_bl_list, fIs_bl, gIsi_int_int, gIsi_int_bool, gIsi_int_tuple, gIsi_int_str, gIsi_int_list, fIs_int, gIsi_str_int, gIsi_str_bool, gIsi_str_tuple, gIsi_str_str, gIsi_str_list, fIs_str, gIsi_tup_int, gIsi_tup_bool, gIsi_tup_tuple, gIsi_tup_str, gIsi_tup_list, fIs_tup, gIsi_lst_int, gIsi_lst_bool, gIsi_lst_tuple, gIsi_lst_str, gIsi_lst_list, fIs_lst, gIsi_frz_int, gIsi_frz_bool, gIsi_frz_tuple, gIsi_frz_str, gIsi_frz_list, fIs_frz, gIsi_dct_int, gIsi_dct_bool, gIsi_dct_tuple, gIsi_dct_str, gIsi_dct_list, fIs_dct, mRaise1, hE]
              exact hq' _
            · rw [if_neg c4] at hq'
              rw [decide_eq_false (show ¬ (k : Int) = 4 by omega)]
              simp only [mBody_e, startD_e, mNext_e, mSeq_e, mExpr_e, mRet_e, mRetN_e, mIfS_e, mBreak_e, mCont_e, mSet_e, mAsg_e, mPar2_e, mPar3_e, mVar_e, slot_0, slot_s, mC_e, mOp_e, mUn_e, mT_e, mAnd_e, mOr_e, mNot_e, mAndV_e, mOrV_e, mNotV_e, mIf_e, mTup_0, mTup_1, mTup_2, mTup_3, mLst_0, mLst_1, mLst_2, mLst_3, mLst_4, mCall_1, mCall_2, mCallF_1, mCallF_2, mCallF_3, mCallF_4, mFor_e, iR1_e, iZ_e, iE_e, iS_e, mLc_e, mLcO_e, mYes_e, gTg_e, bindT_nm, bindT_1, bindT_2, bindT_3, onEnv_s, onInt_i, onBl_b, onSeq_t, onSeq_l, onSeq_f, onZip_t, onZip_l, onEnum_t, onEnum_l, onT_t, onT_f, onSome_s, fAdd_ii, fAdd_tt, fAdd_ll, fAdd_ss, fSub_ii, fMul_ii, fMul_li, fDiv_ii, fMod_ii, fPow_ii, fNeg_i, fLe_ii, fGt_ii, fGe_ii, fLt_ii, fEq_ii, fEq_ss, fEq_bb, gLen_t, gLen_l, gLen_f, gInt_i, gInt_b, gBool_b, gList_t, gList_l, gList_f, gTuple_t, gTuple_l, gSum_t, gSum_l, fIx_t, fIx_l, fIx_f, fSl_t, fSl_l, fSl_f, fRev_t, fRev_l, wipeD_n, wipeD_c, mPN_e, mPS_e, mSl_e, mDct_e, mChain_e, gMax2_ii, fMulO_li, fMulT_e, iR2_e, fEqN_l, mLst_7, mLst_8, mLst_9, mLst_10, mLst_11, mLst_12, mLst_13, mLst_14, mLst_15, mLst_16, mLst_17, mLst_18, mLst_19, mLst_20, mDcx_e, mMeth_e, mMeth0_e, tyM_str, true_and, mLstO_0, mLstO_1, mLstO_2, mLstO_3, mLstO_4, mTup_4, mLstO_5, mLst_5, mTup_5, mLstO_6, mLst_6, mTup_6, gIsi_non_int, gIsi_non_bool, gIsi_non_tuple, gIsi_non_str, gIsi_non_list, fIs_non, gIsi_bl_int, gIsi_bl_bool, gIsi_bl_tuple, gIsi_bl_str, gIsi_bl_list, fIs_bl, gIsi_int_int, gIsi_int_bool, gIsi_int_tuple, gIsi_int_str, gIsi_int_list, fIs_int, gIsi_str_int, gIsi_str_bool, gIsi_str_tuple, gIsi_str_str, gIsi_str_list, fIs_str, gIsi_tup_int, gIsi_tup_bool, gIsi_tup_tuple, gIsi_tup_str, gIsi_tup_list, fIs_tup, gIsi_lst_int, gIsi_lst_bool, gIsi_lst_tuple, gIsi_lst_str, gIsi_lst_list, fIs_lst, gIsi_frz_int, gIsi_frz_bool, gIsi_frz_tuple, gIsi_frz_str, gIsi_frz_list, fIs_frz, gIsi_dct_int, gIsi_dct_bool, gIsi_dct_tuple, gIsi_dct_str, gIsi_dct_list, fIs_dct, app3 r_read_market_1_e, List.map_cons, List.map_nil, List.length_cons, List.length_nil, List.cons_append, List.nil_append, List.set_cons_zero, List.set_cons_succ, List.replicate_zero, List.replicate_succ]
              refine ⟨tyM_ref get_last, append_ok get_last (by unfold rsV; rw [List.length_map]; omega) ?_⟩
              rw [set_last]
              have e4 : rsV acc ++ [DV.tup [.tup (intsV r.1), .tup (intsV r.2)]] = rsV (acc ++ [r]) := by
                unfold rsV
                rw [List.map_append]
                rfl
              rw [e4]
              exact ih (k + 1) (acc ++ [r]) _ _ _ _ _ D hD hE (fun z hz => hw z (List.mem_cons_of_mem _ hz)) (by rw [List.length_append, List.length_singleton]; omega) hq'
      exact key ls 0 [] _ _ none none none _ rfl (fun _ _ _ => rfl) (fun w hw => hl w (List.mem_cons_of_mem _ hw)) (by simp at hc ⊢; omega) q2
theorem found_ok {x : Str} {S : Store} {Q : MK DV} {E : MX} (hx : x.length ≤ 1000000) (q : ∀ ds, Q (foundV (readS x)) (S ++ [some (.lst ds)])) : m__law_found [.str x] S Q E := by
  simp only [app4 m__law_found_e, app3 b__law_found_e, mBody_e, startD_e, mNext_e, mSeq_e, mExpr_e, mRet_e, mRetN_e, mIfS_e, mBreak_e, mCont_e, mSet_e, mAsg_e, mPar2_e, mPar3_e, mVar_e, slot_0, slot_s, mC_e, mOp_e, mUn_e, mT_e, mAnd_e, mOr_e, mNot_e, mAndV_e, mOrV_e, mNotV_e, mIf_e, mTup_0, mTup_1, mTup_2, mTup_3, mLst_0, mLst_1, mLst_2, mLst_3, mLst_4, mCall_1, mCall_2, mCallF_1, mCallF_2, mCallF_3, mCallF_4, mFor_e, iR1_e, iZ_e, iE_e, iS_e, mLc_e, mLcO_e, mYes_e, gTg_e, bindT_nm, bindT_1, bindT_2, bindT_3, onEnv_s, onInt_i, onBl_b, onSeq_t, onSeq_l, onSeq_f, onZip_t, onZip_l, onEnum_t, onEnum_l, onT_t, onT_f, onSome_s, fAdd_ii, fAdd_tt, fAdd_ll, fAdd_ss, fSub_ii, fMul_ii, fMul_li, fDiv_ii, fMod_ii, fPow_ii, fNeg_i, fLe_ii, fGt_ii, fGe_ii, fLt_ii, fEq_ii, fEq_ss, fEq_bb, gLen_t, gLen_l, gLen_f, gInt_i, gInt_b, gBool_b, gList_t, gList_l, gList_f, gTuple_t, gTuple_l, gSum_t, gSum_l, fIx_t, fIx_l, fIx_f, fSl_t, fSl_l, fSl_f, fRev_t, fRev_l, wipeD_n, wipeD_c, mPN_e, mPS_e, mSl_e, mDct_e, mChain_e, gMax2_ii, fMulO_li, fMulT_e, iR2_e, fEqN_l, mLst_7, mLst_8, mLst_9, mLst_10, mLst_11, mLst_12, mLst_13, mLst_14, mLst_15, mLst_16, mLst_17, mLst_18, mLst_19, mLst_20, mDcx_e, mMeth_e, mMeth0_e, tyM_str, true_and, mLstO_0, mLstO_1, mLstO_2, mLstO_3, mLstO_4, mTup_4, mLstO_5, mLst_5, mTup_5, mLstO_6, mLst_6, mTup_6, gIsi_non_int, gIsi_non_bool, gIsi_non_tuple, gIsi_non_str, gIsi_non_list, fIs_non, gIsi_bl_int, gIsi_bl_bool, gIsi_bl_tuple, gIsi_bl_str, gIsi_bl_list, fIs_bl, gIsi_int_int, gIsi_int_bool, gIsi_int_tuple, gIsi_int_str, gIsi_int_list, fIs_int, gIsi_str_int, gIsi_str_bool, gIsi_str_tuple, gIsi_str_str, gIsi_str_list, fIs_str, gIsi_tup_int, gIsi_tup_bool, gIsi_tup_tuple, gIsi_tup_str, gIsi_tup_list, fIs_tup, gIsi_lst_int, gIsi_lst_bool, gIsi_lst_tuple, gIsi_lst_str, gIsi_lst_list, fIs_lst, gIsi_frz_int, gIsi_frz_bool, gIsi_frz_tuple, gIsi_frz_str, gIsi_frz_list, fIs_frz, gIsi_dct_int, gIsi_dct_bool, gIsi_dct_tuple, gIsi_dct_str, gIsi_dct_list, fIs_dct, List.map_cons, List.map_nil, List.length_cons, List.length_nil, List.cons_append, List.nil_append, List.set_cons_zero, List.set_cons_succ, List.replicate_zero, List.replicate_succ, mNoEx, mTryL]
  refine read_ok hx fun ds => ?_
  have h := q ds
  cases hr : readS x with
  | ok g ts =>
    rw [hr] at h
    exact h
  | bad k =>
    rw [hr] at h
    exact ⟨List.mem_singleton.mpr rfl, by decide, by
      rw [if_pos rfl]
      exact ⟨_, rfl, h⟩⟩
theorem found_non {d : DV} {S : Store} {Q : MK DV} {E : MX} (hd : ∀ Q, gIsi [d, .ty "str"] S Q = Q (.bl false) S) (q : Q (.lst [.str "bad", .non]) S) : m__law_found [d] S Q E := by
  simp only [app4 m__law_found_e, app3 b__law_found_e, mBody_e, startD_e, mNext_e, mSeq_e, mExpr_e, mRet_e, mRetN_e, mIfS_e, mBreak_e, mCont_e, mSet_e, mAsg_e, mPar2_e, mPar3_e, mVar_e, slot_0, slot_s, mC_e, mOp_e, mUn_e, mT_e, mAnd_e, mOr_e, mNot_e, mAndV_e, mOrV_e, mNotV_e, mIf_e, mTup_0, mTup_1, mTup_2, mTup_3, mLst_0, mLst_1, mLst_2, mLst_3, mLst_4, mCall_1, mCall_2, mCallF_1, mCallF_2, mCallF_3, mCallF_4, mFor_e, iR1_e, iZ_e, iE_e, iS_e, mLc_e, mLcO_e, mYes_e, gTg_e, bindT_nm, bindT_1, bindT_2, bindT_3, onEnv_s, onInt_i, onBl_b, onSeq_t, onSeq_l, onSeq_f, onZip_t, onZip_l, onEnum_t, onEnum_l, onT_t, onT_f, onSome_s, fAdd_ii, fAdd_tt, fAdd_ll, fAdd_ss, fSub_ii, fMul_ii, fMul_li, fDiv_ii, fMod_ii, fPow_ii, fNeg_i, fLe_ii, fGt_ii, fGe_ii, fLt_ii, fEq_ii, fEq_ss, fEq_bb, gLen_t, gLen_l, gLen_f, gInt_i, gInt_b, gBool_b, gList_t, gList_l, gList_f, gTuple_t, gTuple_l, gSum_t, gSum_l, fIx_t, fIx_l, fIx_f, fSl_t, fSl_l, fSl_f, fRev_t, fRev_l, wipeD_n, wipeD_c, mPN_e, mPS_e, mSl_e, mDct_e, mChain_e, gMax2_ii, fMulO_li, fMulT_e, iR2_e, fEqN_l, mLst_7, mLst_8, mLst_9, mLst_10, mLst_11, mLst_12, mLst_13, mLst_14, mLst_15, mLst_16, mLst_17, mLst_18, mLst_19, mLst_20, mDcx_e, mMeth_e, mMeth0_e, tyM_str, true_and, mLstO_0, mLstO_1, mLstO_2, mLstO_3, mLstO_4, mTup_4, mLstO_5, mLst_5, mTup_5, mLstO_6, mLst_6, mTup_6, gIsi_non_int, gIsi_non_bool, gIsi_non_tuple, gIsi_non_str, gIsi_non_list, fIs_non, gIsi_bl_int, gIsi_bl_bool, gIsi_bl_tuple, gIsi_bl_str, gIsi_bl_list, fIs_bl, gIsi_int_int, gIsi_int_bool, gIsi_int_tuple, gIsi_int_str, gIsi_int_list, fIs_int, gIsi_str_int, gIsi_str_bool, gIsi_str_tuple, gIsi_str_str, gIsi_str_list, fIs_str, gIsi_tup_int, gIsi_tup_bool, gIsi_tup_tuple, gIsi_tup_str, gIsi_tup_list, fIs_tup, gIsi_lst_int, gIsi_lst_bool, gIsi_lst_tuple, gIsi_lst_str, gIsi_lst_list, fIs_lst, gIsi_frz_int, gIsi_frz_bool, gIsi_frz_tuple, gIsi_frz_str, gIsi_frz_list, fIs_frz, gIsi_dct_int, gIsi_dct_bool, gIsi_dct_tuple, gIsi_dct_str, gIsi_dct_list, fIs_dct, List.map_cons, List.map_nil, List.length_cons, List.length_nil, List.cons_append, List.nil_append, List.set_cons_zero, List.set_cons_succ, List.replicate_zero, List.replicate_succ, mNoEx, mTryL]
  simp only [app4 m_read_market_e, app3 b_read_market_e, mBody_e, startD_e, mNext_e, mSeq_e, mExpr_e, mRet_e, mRetN_e, mIfS_e, mBreak_e, mCont_e, mSet_e, mAsg_e, mPar2_e, mPar3_e, mVar_e, slot_0, slot_s, mC_e, mOp_e, mUn_e, mT_e, mAnd_e, mOr_e, mNot_e, mAndV_e, mOrV_e, mNotV_e, mIf_e, mTup_0, mTup_1, mTup_2, mTup_3, mLst_0, mLst_1, mLst_2, mLst_3, mLst_4, mCall_1, mCall_2, mCallF_1, mCallF_2, mCallF_3, mCallF_4, mFor_e, iR1_e, iZ_e, iE_e, iS_e, mLc_e, mLcO_e, mYes_e, gTg_e, bindT_nm, bindT_1, bindT_2, bindT_3, onEnv_s, onInt_i, onBl_b, onSeq_t, onSeq_l, onSeq_f, onZip_t, onZip_l, onEnum_t, onEnum_l, onT_t, onT_f, onSome_s, fAdd_ii, fAdd_tt, fAdd_ll, fAdd_ss, fSub_ii, fMul_ii, fMul_li, fDiv_ii, fMod_ii, fPow_ii, fNeg_i, fLe_ii, fGt_ii, fGe_ii, fLt_ii, fEq_ii, fEq_ss, fEq_bb, gLen_t, gLen_l, gLen_f, gInt_i, gInt_b, gBool_b, gList_t, gList_l, gList_f, gTuple_t, gTuple_l, gSum_t, gSum_l, fIx_t, fIx_l, fIx_f, fSl_t, fSl_l, fSl_f, fRev_t, fRev_l, wipeD_n, wipeD_c, mPN_e, mPS_e, mSl_e, mDct_e, mChain_e, gMax2_ii, fMulO_li, fMulT_e, iR2_e, fEqN_l, mLst_7, mLst_8, mLst_9, mLst_10, mLst_11, mLst_12, mLst_13, mLst_14, mLst_15, mLst_16, mLst_17, mLst_18, mLst_19, mLst_20, mDcx_e, mMeth_e, mMeth0_e, tyM_str, true_and, mLstO_0, mLstO_1, mLstO_2, mLstO_3, mLstO_4, mTup_4, mLstO_5, mLst_5, mTup_5, mLstO_6, mLst_6, mTup_6, gIsi_non_int, gIsi_non_bool, gIsi_non_tuple, gIsi_non_str, gIsi_non_list, fIs_non, gIsi_bl_int, gIsi_bl_bool, gIsi_bl_tuple, gIsi_bl_str, gIsi_bl_list, fIs_bl, gIsi_int_int, gIsi_int_bool, gIsi_int_tuple, gIsi_int_str, gIsi_int_list, fIs_int, gIsi_str_int, gIsi_str_bool, gIsi_str_tuple, gIsi_str_str, gIsi_str_list, fIs_str, gIsi_tup_int, gIsi_tup_bool, gIsi_tup_tuple, gIsi_tup_str, gIsi_tup_list, fIs_tup, gIsi_lst_int, gIsi_lst_bool, gIsi_lst_tuple, gIsi_lst_str, gIsi_lst_list, fIs_lst, gIsi_frz_int, gIsi_frz_bool, gIsi_frz_tuple, gIsi_frz_str, gIsi_frz_list, fIs_frz, gIsi_dct_int, gIsi_dct_bool, gIsi_dct_tuple, gIsi_dct_str, gIsi_dct_list, fIs_dct, List.map_cons, List.map_nil, List.length_cons, List.length_nil, List.cons_append, List.nil_append, List.set_cons_zero, List.set_cons_succ, List.replicate_zero, List.replicate_succ, hd, Bool.not_false, mRaise1]
  exact ⟨List.mem_singleton.mpr rfl, by decide, by
      simp only [if_true]
      exact ⟨_, rfl, q⟩⟩
/-! ### the law's own reading -/
def Sg (x : Str) : Prop := ∀ c ∈ tl x, c < 128
theorem Sg.ok {x : Str} (h : Sg x) : SeqAt.shaped (.str x) = true := by
  have h2 : PyData.strOk x = true := by
    show x.cps.all (· < 0x110000) = true
    rw [← Array.all_toList, List.all_eq_true]
    intro c hc
    have := h c hc
    exact decide_eq_true (by omega)
  unfold SeqAt.shaped
  simp only [PyData.canLay0, PyData.depth, Bool.and_eq_true, decide_eq_true_eq]
  exact ⟨h2, rfl⟩
def strsP (L : List Str) : List PyData := L.map PyData.str
theorem toPs_strs : ∀ L : List Str, toPs (strsV L) = some (strsP L)
  | [] => rfl
  | x :: L => toPs_cons rfl (toPs_strs L)
theorem shaped_strs {L : List Str} (h : ∀ x ∈ L, Sg x) : SeqAt.shaped (.list (strsP L)) = true := by
  have h1 : PyData.canLayAll0 (strsP L) = true ∧ PyData.depthAll (strsP L) = 0 := by
    induction L with
    | nil => exact ⟨by simp [strsP, PyData.canLayAll0], by simp [strsP, PyData.depthAll]⟩
    | cons x L ih =>
      obtain ⟨a, b⟩ := ih fun y hy => h y (List.mem_cons_of_mem _ hy)
      have c := (h x List.mem_cons_self).ok
      unfold SeqAt.shaped at c
      rw [Bool.and_eq_true] at c
      refine ⟨?_, ?_⟩
      · show PyData.canLayAll0 (.str x :: strsP L) = true
        rw [PyData.canLayAll0, c.1, a]
        rfl
      · show PyData.depthAll (.str x :: strsP L) = 0
        simp [PyData.depthAll, PyData.depth, b]
  unfold SeqAt.shaped
  simp only [PyData.canLay0, PyData.depth, h1.1, h1.2]
  decide
theorem in_strs {q : Bool → Bool} {w : Str} {L : List Str} {S : Store} {Q : MK DV} (hw : Sg w) (hL : ∀ x ∈ L, Sg x) (h : Q (.bl (q (decide (w ∈ L)))) S) : fInL q (.str w) (.lst (strsV L)) S Q := by
  refine ⟨strsV L, .str w, strsP L, rfl, rfl, toPs_strs L, hw.ok, by simp [PyData.depth], shaped_strs hL, ?_⟩
  have e : (strsP L).any (fun z => PyData.eqv z (.str w)) = decide (w ∈ L) := by
    clear h hL
    unfold strsP
    induction L with
    | nil => simp
    | cons a L ih =>
      rw [List.map_cons, List.any_cons, ih]
      rw [show decide (w ∈ a :: L) = (decide (w = a) || decide (w ∈ L)) by rw [← Bool.decide_or]; exact decide_eq_decide.mpr List.mem_cons]
      congr 1
      rw [PyData.eqv]
      by_cases h1 : a = w
      · subst h1
        simp
      · rw [decide_eq_false (fun z => h1 z.symm)]
        simpa using h1
  rw [e]
  exact h
def D4 : List Str := [Str.ofString "0", Str.ofString "1", Str.ofString "2", Str.ofString "3"]
theorem d4_of {w : Str} (h : w ∈ D4) : ∃ i : Int, digS w = some i ∧ i ≤ 3 ∧ Txt.find (Str.ofString "0123") w = i := by
  simp only [D4, List.mem_cons, List.not_mem_nil, or_false] at h
  rcases h with rfl | rfl | rfl | rfl
  · exact ⟨0, by decide +kernel, by decide, by decide +kernel⟩
  · exact ⟨1, by decide +kernel, by decide, by decide +kernel⟩
  · exact ⟨2, by decide +kernel, by decide, by decide +kernel⟩
  · exact ⟨3, by decide +kernel, by decide, by decide +kernel⟩
theorem of_d4 {w : Str} {i : Int} (h : digS w = some i) (hi : i ≤ 3) : w ∈ D4 := by
  unfold digS at h
  match ht : tl w, h with
  | [], h => cases h
  | [c], h =>
    have hx := str_of_tl ht
    have h' : (if 48 ≤ c ∧ c ≤ 52 then some ((c : Int) - 48) else none) = some i := h
    split at h'
    · rename_i hc
      cases h'
      subst hx
      have : c = 48 ∨ c = 49 ∨ c = 50 ∨ c = 51 := by omega
      rcases this with rfl | rfl | rfl | rfl <;> decide +kernel
    · cases h'
  | _ :: _ :: _, h => cases h
def lawB (ws : List Str) (g : Nat) : Option (List Int) := if ws.length = g ∧ (∀ w ∈ ws, w ∈ D4) then (if (bagL ws).sum ≤ 4 then some (bagL ws) else none) else none
theorem lawB_eq {ws : List Str} {g : Nat} (h : ws.length = g) : lawB ws g = bagS ws := by
  unfold lawB bagS
  by_cases c : ∀ w ∈ ws, w ∈ D4
  · rw [if_pos ⟨h, c⟩]
    have e1 : ws.all (fun w => (digS w).isSome) = true := by
      rw [List.all_eq_true]
      intro w hw
      obtain ⟨i, h1, _⟩ := d4_of (c w hw)
      rw [h1]
      rfl
    have e2 : (bagL ws).all (fun x => decide (x ≤ 3)) = true := by
      rw [List.all_eq_true]
      intro x hx
      obtain ⟨w, hw, rfl⟩ := List.mem_map.mp hx
      obtain ⟨i, h1, h2, _⟩ := d4_of (c w hw)
      rw [h1]
      exact decide_eq_true h2
    rw [e1, e2, if_pos rfl, Bool.true_and]
    by_cases h4 : (bagL ws).sum ≤ 4
    · rw [if_pos h4, decide_eq_true h4]
      rfl
    · rw [if_neg h4, decide_eq_false h4]
      rfl
  · rw [if_neg fun z => c z.2]
    cases e1 : ws.all (fun w => (digS w).isSome) with
    | false => rfl
    | true =>
      have e2 : (bagL ws).all (fun x => decide (x ≤ 3)) = false := by
        rw [Bool.eq_false_iff]
        intro hall
        refine c fun w hw => ?_
        obtain ⟨i, hi⟩ := Option.isSome_iff_exists.mp (List.all_eq_true.mp e1 w hw)
        refine of_d4 hi ?_
        have := List.all_eq_true.mp hall ((digS w).getD 0) (List.mem_map_of_mem (f := fun w => (digS w).getD 0) hw)
        rw [hi] at this
        exact of_decide_eq_true this
      rw [if_pos rfl, e2]
      rfl
theorem lawB_len {ws : List Str} {g : Nat} {a : List Int} (h : lawB ws g = some a) : ws.length = g := by
  unfold lawB at h
  split at h
  · rename_i c
    exact c.1
  · cases h
theorem D4_sg : ∀ x ∈ D4, Sg x := by
  intro x hx
  simp only [D4, List.mem_cons, List.not_mem_nil, or_false] at hx
  unfold Sg
  rcases hx with rfl | rfl | rfl | rfl <;> decide +kernel
theorem bag_in_ok {ws : List Str} {g : Nat} {S : Store} {Q : MK DV} {E : MX} (hl : ws.length < 16777216) (hw : ∀ w ∈ ws, Sg w) (q : Q (optB (lawB ws g)) S) : m__law_bag_in [.lst (strsV ws), .int g] S Q E := by
  simp only [app4 m__law_bag_in_e, app3 b__law_bag_in_e, mBody_e, startD_e, mNext_e, mSeq_e, mExpr_e, mRet_e, mRetN_e, mIfS_e, mBreak_e, mCont_e, mSet_e, mAsg_e, mPar2_e, mPar3_e, mVar_e, slot_0, slot_s, mC_e, mOp_e, mUn_e, mT_e, mAnd_e, mOr_e, mNot_e, mAndV_e, mOrV_e, mNotV_e, mIf_e, mTup_0, mTup_1, mTup_2, mTup_3, mLst_0, mLst_1, mLst_2, mLst_3, mLst_4, mCall_1, mCall_2, mCallF_1, mCallF_2, mCallF_3, mCallF_4, mFor_e, iR1_e, iZ_e, iE_e, iS_e, mLc_e, mLcO_e, mYes_e, gTg_e, bindT_nm, bindT_1, bindT_2, bindT_3, onEnv_s, onInt_i, onBl_b, onSeq_t, onSeq_l, onSeq_f, onZip_t, onZip_l, onEnum_t, onEnum_l, onT_t, onT_f, onSome_s, fAdd_ii, fAdd_tt, fAdd_ll, fAdd_ss, fSub_ii, fMul_ii, fMul_li, fDiv_ii, fMod_ii, fPow_ii, fNeg_i, fLe_ii, fGt_ii, fGe_ii, fLt_ii, fEq_ii, fEq_ss, fEq_bb, gLen_t, gLen_l, gLen_f, gInt_i, gInt_b, gBool_b, gList_t, gList_l, gList_f, gTuple_t, gTuple_l, gSum_t, gSum_l, fIx_t, fIx_l, fIx_f, fSl_t, fSl_l, fSl_f, fRev_t, fRev_l, wipeD_n, wipeD_c, mPN_e, mPS_e, mSl_e, mDct_e, mChain_e, gMax2_ii, fMulO_li, fMulT_e, iR2_e, fEqN_l, mLst_7, mLst_8, mLst_9, mLst_10, mLst_11, mLst_12, mLst_13, mLst_14, mLst_15, mLst_16, mLst_17, mLst_18, mLst_19, mLst_20, mDcx_e, mMeth_e, mMeth0_e, tyM_str, true_and, mLstO_0, mLstO_1, mLstO_2, mLstO_3, mLstO_4, mTup_4, mLstO_5, mLst_5, mTup_5, mLstO_6, mLst_6, mTup_6, gIsi_non_int, gIsi_non_bool, gIsi_non_tuple, gIsi_non_str, gIsi_non_list, fIs_non, gIsi_bl_int, gIsi_bl_bool, gIsi_bl_tuple, gIsi_bl_str, gIsi_bl_list, fIs_bl, gIsi_int_int, gIsi_int_bool, gIsi_int_tuple, gIsi_int_str, gIsi_int_list, fIs_int, gIsi_str_int, gIsi_str_bool, gIsi_str_tuple, gIsi_str_str, gIsi_str_list, fIs_str, gIsi_tup_int, gIsi_tup_bool, gIsi_tup_tuple, gIsi_tup_str, gIsi_tup_list, fIs_tup, gIsi_lst_int, gIsi_lst_bool, gIsi_lst_tuple, gIsi_lst_str, gIsi_lst_list, fIs_lst, gIsi_frz_int, gIsi_frz_bool, gIsi_frz_tuple, gIsi_frz_str, gIsi_frz_list, fIs_frz, gIsi_dct_int, gIsi_dct_bool, gIsi_dct_tuple, gIsi_dct_str, gIsi_dct_list, fIs_dct, List.map_cons, List.map_nil, List.length_cons, List.length_nil, List.cons_append, List.nil_append, List.set_cons_zero, List.set_cons_succ, List.replicate_zero, List.replicate_succ, strsV_len]
  unfold lawB at q
  by_cases c : ws.length = g
  · have c' : ((ws.length : Nat) : Int) = (g : Int) := by omega
    simp only [decide_eq_true c', Bool.not_true, mBody_e, startD_e, mNext_e, mSeq_e, mExpr_e, mRet_e, mRetN_e, mIfS_e, mBreak_e, mCont_e, mSet_e, mAsg_e, mPar2_e, mPar3_e, mVar_e, slot_0, slot_s, mC_e, mOp_e, mUn_e, mT_e, mAnd_e, mOr_e, mNot_e, mAndV_e, mOrV_e, mNotV_e, mIf_e, mTup_0, mTup_1, mTup_2, mTup_3, mLst_0, mLst_1, mLst_2, mLst_3, mLst_4, mCall_1, mCall_2, mCallF_1, mCallF_2, mCallF_3, mCallF_4, mFor_e, iR1_e, iZ_e, iE_e, iS_e, mLc_e, mLcO_e, mYes_e, gTg_e, bindT_nm, bindT_1, bindT_2, bindT_3, onEnv_s, onInt_i, onBl_b, onSeq_t, onSeq_l, onSeq_f, onZip_t, onZip_l, onEnum_t, onEnum_l, onT_t, onT_f, onSome_s, fAdd_ii, fAdd_tt, fAdd_ll, fAdd_ss, fSub_ii, fMul_ii, fMul_li, fDiv_ii, fMod_ii, fPow_ii, fNeg_i, fLe_ii, fGt_ii, fGe_ii, fLt_ii, fEq_ii, fEq_ss, fEq_bb, gLen_t, gLen_l, gLen_f, gInt_i, gInt_b, gBool_b, gList_t, gList_l, gList_f, gTuple_t, gTuple_l, gSum_t, gSum_l, fIx_t, fIx_l, fIx_f, fSl_t, fSl_l, fSl_f, fRev_t, fRev_l, wipeD_n, wipeD_c, mPN_e, mPS_e, mSl_e, mDct_e, mChain_e, gMax2_ii, fMulO_li, fMulT_e, iR2_e, fEqN_l, mLst_7, mLst_8, mLst_9, mLst_10, mLst_11, mLst_12, mLst_13, mLst_14, mLst_15, mLst_16, mLst_17, mLst_18, mLst_19, mLst_20, mDcx_e, mMeth_e, mMeth0_e, tyM_str, true_and, mLstO_0, mLstO_1, mLstO_2, mLstO_3, mLstO_4, mTup_4, mLstO_5, mLst_5, mTup_5, mLstO_6, mLst_6, mTup_6, gIsi_non_int, gIsi_non_bool, gIsi_non_tuple, gIsi_non_str, gIsi_non_list, fIs_non, gIsi_bl_int, gIsi_bl_bool, gIsi_bl_tuple, gIsi_bl_str, gIsi_bl_list, fIs_bl, gIsi_int_int, gIsi_int_bool, gIsi_int_tuple, gIsi_int_str, gIsi_int_list, fIs_int, gIsi_str_int, gIsi_str_bool, gIsi_str_tuple, gIsi_str_str, gIsi_str_list, fIs_str, gIsi_tup_int, gIsi_tup_bool, gIsi_tup_tuple, gIsi_tup_str, gIsi_tup_list, fIs_tup, gIsi_lst_int, gIsi_lst_bool, gIsi_lst_tuple, gIsi_lst_str, gIsi_lst_list, fIs_lst, gIsi_frz_int, gIsi_frz_bool, gIsi_frz_tuple, gIsi_frz_str, gIsi_frz_list, fIs_frz, gIsi_dct_int, gIsi_dct_bool, gIsi_dct_tuple, gIsi_dct_str, gIsi_dct_list, fIs_dct]
    refine lc_fm (fun w : Str => DV.str w) (fun w => DV.str w) (fun w => !(decide (w ∈ D4))) ws [] (by simpa using hl) (fun w hww => ⟨_, bindT_nm, fun Qb hq => ?_, fun _ Qc hq => ?_⟩) ?_
    · simp only [mBody_e, startD_e, mNext_e, mSeq_e, mExpr_e, mRet_e, mRetN_e, mIfS_e, mBreak_e, mCont_e, mSet_e, mAsg_e, mPar2_e, mPar3_e, mVar_e, slot_0, slot_s, mC_e, mOp_e, mUn_e, mT_e, mAnd_e, mOr_e, mNot_e, mAndV_e, mOrV_e, mNotV_e, mIf_e, mTup_0, mTup_1, mTup_2, mTup_3, mLst_0, mLst_1, mLst_2, mLst_3, mLst_4, mCall_1, mCall_2, mCallF_1, mCallF_2, mCallF_3, mCallF_4, mFor_e, iR1_e, iZ_e, iE_e, iS_e, mLc_e, mLcO_e, mYes_e, gTg_e, bindT_nm, bindT_1, bindT_2, bindT_3, onEnv_s, onInt_i, onBl_b, onSeq_t, onSeq_l, onSeq_f, onZip_t, onZip_l, onEnum_t, onEnum_l, onT_t, onT_f, onSome_s, fAdd_ii, fAdd_tt, fAdd_ll, fAdd_ss, fSub_ii, fMul_ii, fMul_li, fDiv_ii, fMod_ii, fPow_ii, fNeg_i, fLe_ii, fGt_ii, fGe_ii, fLt_ii, fEq_ii, fEq_ss, fEq_bb, gLen_t, gLen_l, gLen_f, gInt_i, gInt_b, gBool_b, gList_t, gList_l, gList_f, gTuple_t, gTuple_l, gSum_t, gSum_l, fIx_t, fIx_l, fIx_f, fSl_t, fSl_l, fSl_f, fRev_t, fRev_l, wipeD_n, wipeD_c, mPN_e, mPS_e, mSl_e, mDct_e, mChain_e, gMax2_ii, fMulO_li, fMulT_e, iR2_e, fEqN_l, mLst_7, mLst_8, mLst_9, mLst_10, mLst_11, mLst_12, mLst_13, mLst_14, mLst_15, mLst_16, mLst_17, mLst_18, mLst_19, mLst_20, mDcx_e, mMeth_e, mMeth0_e, tyM_str, true_and, mLstO_0, mLstO_1, mLstO_2, mLstO_3, mLstO_4, mTup_4, mLstO_5, mLst_5, mTup_5, mLstO_6, mLst_6, mTup_6, gIsi_non_int, gIsi_non_bool, gIsi_non_tuple, gIsi_non_str, gIsi_non_list, fIs_non, gIsi_bl_int, gIsi_bl_bool, gIsi_bl_tuple, gIsi_bl_str, gIsi_bl_list, fIs_bl, gIsi_int_int, gIsi_int_bool, gIsi_int_tuple, gIsi_int_str, gIsi_int_list, fIs_int, gIsi_str_int, gIsi_str_bool, gIsi_str_tuple, gIsi_str_str, gIsi_str_list, fIs_str, gIsi_tup_int, gIsi_tup_bool, gIsi_tup_tuple, gIsi_tup_str, gIsi_tup_list, fIs_tup, gIsi_lst_int, gIsi_lst_bool, gIsi_lst_tuple, gIsi_lst_str, gIsi_lst_list, fIs_lst, gIsi_frz_int, gIsi_frz_bool, gIsi_frz_tuple, gIsi_frz_str, gIsi_frz_list, fIs_frz, gIsi_dct_int, gIsi_dct_bool, gIsi_dct_tuple, gIsi_dct_str, gIsi_dct_list, fIs_dct, List.map_cons, List.map_nil, List.length_cons, List.length_nil, List.cons_append, List.nil_append, List.set_cons_zero, List.set_cons_succ, List.replicate_zero, List.replicate_succ]
      refine in_strs (L := D4) (hw w hww) D4_sg ?_
      simp only [mBody_e, startD_e, mNext_e, mSeq_e, mExpr_e, mRet_e, mRetN_e, mIfS_e, mBreak_e, mCont_e, mSet_e, mAsg_e, mPar2_e, mPar3_e, mVar_e, slot_0, slot_s, mC_e, mOp_e, mUn_e, mT_e, mAnd_e, mOr_e, mNot_e, mAndV_e, mOrV_e, mNotV_e, mIf_e, mTup_0, mTup_1, mTup_2, mTup_3, mLst_0, mLst_1, mLst_2, mLst_3, mLst_4, mCall_1, mCall_2, mCallF_1, mCallF_2, mCallF_3, mCallF_4, mFor_e, iR1_e, iZ_e, iE_e, iS_e, mLc_e, mLcO_e, mYes_e, gTg_e, bindT_nm, bindT_1, bindT_2, bindT_3, onEnv_s, onInt_i, onBl_b, onSeq_t, onSeq_l, onSeq_f, onZip_t, onZip_l, onEnum_t, onEnum_l, onT_t, onT_f, onSome_s, fAdd_ii, fAdd_tt, fAdd_ll, fAdd_ss, fSub_ii, fMul_ii, fMul_li, fDiv_ii, fMod_ii, fPow_ii, fNeg_i, fLe_ii, fGt_ii, fGe_ii, fLt_ii, fEq_ii, fEq_ss, fEq_bb, gLen_t, gLen_l, gLen_f, gInt_i, gInt_b, gBool_b, gList_t, gList_l, gList_f, gTuple_t, gTuple_l, gSum_t, gSum_l, fIx_t, fIx_l, fIx_f, fSl_t, fSl_l, fSl_f, fRev_t, fRev_l, wipeD_n, wipeD_c, mPN_e, mPS_e, mSl_e, mDct_e, mChain_e, gMax2_ii, fMulO_li, fMulT_e, iR2_e, fEqN_l, mLst_7, mLst_8, mLst_9, mLst_10, mLst_11, mLst_12, mLst_13, mLst_14, mLst_15, mLst_16, mLst_17, mLst_18, mLst_19, mLst_20, mDcx_e, mMeth_e, mMeth0_e, tyM_str, true_and, mLstO_0, mLstO_1, mLstO_2, mLstO_3, mLstO_4, mTup_4, mLstO_5, mLst_5, mTup_5, mLstO_6, mLst_6, mTup_6, gIsi_non_int, gIsi_non_bool, gIsi_non_tuple, gIsi_non_str, gIsi_non_list, fIs_non, gIsi_bl_int, gIsi_bl_bool, gIsi_bl_tuple, gIsi_bl_str, gIsi_bl_list, fIs_bl, gIsi_int_int, gIsi_int_bool, gIsi_int_tuple, gIsi_int_str, gIsi_int_list, fIs_int, gIsi_str_int, gIsi_str_bool, gIsi_str_tuple, gIsi_str_str, gIsi_str_list, fIs_str, gIsi_tup_int, gIsi_tup_bool, gIsi_tup_tuple, gIsi_tup_str, gIsi_tup_list, fIs_tup, gIsi_lst_int, gIsi_lst_bool, gIsi_lst_tuple, gIsi_lst_str, gIsi_lst_list, fIs_lst, gIsi_frz_int, gIsi_frz_bool, gIsi_frz_tuple, gIsi_frz_str, gIsi_frz_list, fIs_frz, gIsi_dct_int, gIsi_dct_bool, gIsi_dct_tuple, gIsi_dct_str, gIsi_dct_list, fIs_dct]
      exact hq
    · simp only [mBody_e, startD_e, mNext_e, mSeq_e, mExpr_e, mRet_e, mRetN_e, mIfS_e, mBreak_e, mCont_e, mSet_e, mAsg_e, mPar2_e, mPar3_e, mVar_e, slot_0, slot_s, mC_e, mOp_e, mUn_e, mT_e, mAnd_e, mOr_e, mNot_e, mAndV_e, mOrV_e, mNotV_e, mIf_e, mTup_0, mTup_1, mTup_2, mTup_3, mLst_0, mLst_1, mLst_2, mLst_3, mLst_4, mCall_1, mCall_2, mCallF_1, mCallF_2, mCallF_3, mCallF_4, mFor_e, iR1_e, iZ_e, iE_e, iS_e, mLc_e, mLcO_e, mYes_e, gTg_e, bindT_nm, bindT_1, bindT_2, bindT_3, onEnv_s, onInt_i, onBl_b, onSeq_t, onSeq_l, onSeq_f, onZip_t, onZip_l, onEnum_t, onEnum_l, onT_t, onT_f, onSome_s, fAdd_ii, fAdd_tt, fAdd_ll, fAdd_ss, fSub_ii, fMul_ii, fMul_li, fDiv_ii, fMod_ii, fPow_ii, fNeg_i, fLe_ii, fGt_ii, fGe_ii, fLt_ii, fEq_ii, fEq_ss, fEq_bb, gLen_t, gLen_l, gLen_f, gInt_i, gInt_b, gBool_b, gList_t, gList_l, gList_f, gTuple_t, gTuple_l, gSum_t, gSum_l, fIx_t, fIx_l, fIx_f, fSl_t, fSl_l, fSl_f, fRev_t, fRev_l, wipeD_n, wipeD_c, mPN_e, mPS_e, mSl_e, mDct_e, mChain_e, gMax2_ii, fMulO_li, fMulT_e, iR2_e, fEqN_l, mLst_7, mLst_8, mLst_9, mLst_10, mLst_11, mLst_12, mLst_13, mLst_14, mLst_15, mLst_16, mLst_17, mLst_18, mLst_19, mLst_20, mDcx_e, mMeth_e, mMeth0_e, tyM_str, true_and, mLstO_0, mLstO_1, mLstO_2, mLstO_3, mLstO_4, mTup_4, mLstO_5, mLst_5, mTup_5, mLstO_6, mLst_6, mTup_6, gIsi_non_int, gIsi_non_bool, gIsi_non_tuple, gIsi_non_str, gIsi_non_list, fIs_non, gIsi_bl_int, gIsi_bl_bool, gIsi_bl_tuple, gIsi_bl_str, gIsi_bl_list, fIs_bl, gIsi_int_int, gIsi_int_bool, gIsi_int_tuple, gIsi_int_str, gIsi_int_list, fIs_int, gIsi_str_int, gIsi_str_bool, gIsi_str_tuple, gIsi_str_str, gIsi_str_list, fIs_str, gIsi_tup_int, gIsi_tup_bool, gIsi_tup_tuple, gIsi_tup_str, gIsi_tup_list, fIs_tup, gIsi_lst_int, gIsi_lst_bool, gIsi_lst_tuple, gIsi_lst_str, gIsi_lst_list, fIs_lst, gIsi_frz_int, gIsi_frz_bool, gIsi_frz_tuple, gIsi_frz_str, gIsi_frz_list, fIs_frz, gIsi_dct_int, gIsi_dct_bool, gIsi_dct_tuple, gIsi_dct_str, gIsi_dct_list, fIs_dct, List.map_cons, List.map_nil, List.length_cons, List.length_nil, List.cons_append, List.nil_append, List.set_cons_zero, List.set_cons_succ, List.replicate_zero, List.replicate_succ]
      exact hq
    · simp only [List.nil_append, mBody_e, startD_e, mNext_e, mSeq_e, mExpr_e, mRet_e, mRetN_e, mIfS_e, mBreak_e, mCont_e, mSet_e, mAsg_e, mPar2_e, mPar3_e, mVar_e, slot_0, slot_s, mC_e, mOp_e, mUn_e, mT_e, mAnd_e, mOr_e, mNot_e, mAndV_e, mOrV_e, mNotV_e, mIf_e, mTup_0, mTup_1, mTup_2, mTup_3, mLst_0, mLst_1, mLst_2, mLst_3, mLst_4, mCall_1, mCall_2, mCallF_1, mCallF_2, mCallF_3, mCallF_4, mFor_e, iR1_e, iZ_e, iE_e, iS_e, mLc_e, mLcO_e, mYes_e, gTg_e, bindT_nm, bindT_1, bindT_2, bindT_3, onEnv_s, onInt_i, onBl_b, onSeq_t, onSeq_l, onSeq_f, onZip_t, onZip_l, onEnum_t, onEnum_l, onT_t, onT_f, onSome_s, fAdd_ii, fAdd_tt, fAdd_ll, fAdd_ss, fSub_ii, fMul_ii, fMul_li, fDiv_ii, fMod_ii, fPow_ii, fNeg_i, fLe_ii, fGt_ii, fGe_ii, fLt_ii, fEq_ii, fEq_ss, fEq_bb, gLen_t, gLen_l, gLen_f, gInt_i, gInt_b, gBool_b, gList_t, gList_l, gList_f, gTuple_t, gTuple_l, gSum_t, gSum_l, fIx_t, fIx_l, fIx_f, fSl_t, fSl_l, fSl_f, fRev_t, fRev_l, wipeD_n, wipeD_c, mPN_e, mPS_e, mSl_e, mDct_e, mChain_e, gMax2_ii, fMulO_li, fMulT_e, iR2_e, fEqN_l, mLst_7, mLst_8, mLst_9, mLst_10, mLst_11, mLst_12, mLst_13, mLst_14, mLst_15, mLst_16, mLst_17, mLst_18, mLst_19, mLst_20, mDcx_e, mMeth_e, mMeth0_e, tyM_str, true_and, mLstO_0, mLstO_1, mLstO_2, mLstO_3, mLstO_4, mTup_4, mLstO_5, mLst_5, mTup_5, mLstO_6, mLst_6, mTup_6, gIsi_non_int, gIsi_non_bool, gIsi_non_tuple, gIsi_non_str, gIsi_non_list, fIs_non, gIsi_bl_int, gIsi_bl_bool, gIsi_bl_tuple, gIsi_bl_str, gIsi_bl_list, fIs_bl, gIsi_int_int, gIsi_int_bool, gIsi_int_tuple, gIsi_int_str, gIsi_int_list, fIs_int, gIsi_str_int, gIsi_str_bool, gIsi_str_tuple, gIsi_str_str, gIsi_str_list, fIs_str, gIsi_tup_int, gIsi_tup_bool, gIsi_tup_tuple, gIsi_tup_str, gIsi_tup_list, fIs_tup, gIsi_lst_int, gIsi_lst_bool, gIsi_lst_tuple, gIsi_lst_str, gIsi_lst_list, fIs_lst, gIsi_frz_int, gIsi_frz_bool, gIsi_frz_tuple, gIsi_frz_str, gIsi_frz_list, fIs_frz, gIsi_dct_int, gIsi_dct_bool, gIsi_dct_tuple, gIsi_dct_str, gIsi_dct_list, fIs_dct]
      rw [filt_allS]
      cases hc : ws.all fun w => decide (w ∈ D4) with
      | false =>
        have hn : ¬ (ws.length = g ∧ ∀ w ∈ ws, w ∈ D4) := fun z => by
          rw [Bool.eq_false_iff] at hc
          exact hc (List.all_eq_true.mpr fun w hw => decide_eq_true (z.2 w hw))
        rw [if_neg hn] at q
        simp only [Bool.not_false, mBody_e, startD_e, mNext_e, mSeq_e, mExpr_e, mRet_e, mRetN_e, mIfS_e, mBreak_e, mCont_e, mSet_e, mAsg_e, mPar2_e, mPar3_e, mVar_e, slot_0, slot_s, mC_e, mOp_e, mUn_e, mT_e, mAnd_e, mOr_e, mNot_e, mAndV_e, mOrV_e, mNotV_e, mIf_e, mTup_0, mTup_1, mTup_2, mTup_3, mLst_0, mLst_1, mLst_2, mLst_3, mLst_4, mCall_1, mCall_2, mCallF_1, mCallF_2, mCallF_3, mCallF_4, mFor_e, iR1_e, iZ_e, iE_e, iS_e, mLc_e, mLcO_e, mYes_e, gTg_e, bindT_nm, bindT_1, bindT_2, bindT_3, onEnv_s, onInt_i, onBl_b, onSeq_t, onSeq_l, onSeq_f, onZip_t, onZip_l, onEnum_t, onEnum_l, onT_t, onT_f, onSome_s, fAdd_ii, fAdd_tt, fAdd_ll, fAdd_ss, fSub_ii, fMul_ii, fMul_li, fDiv_ii, fMod_ii, fPow_ii, fNeg_i, fLe_ii, fGt_ii, fGe_ii, fLt_ii, fEq_ii, fEq_ss, fEq_bb, gLen_t, gLen_l, gLen_f, gInt_i, gInt_b, gBool_b, gList_t, gList_l, gList_f, gTuple_t, gTuple_l, gSum_t, gSum_l, fIx_t, fIx_l, fIx_f, fSl_t, fSl_l, fSl_f, fRev_t, fRev_l, wipeD_n, wipeD_c, mPN_e, mPS_e, mSl_e, mDct_e, mChain_e, gMax2_ii, fMulO_li, fMulT_e, iR2_e, fEqN_l, mLst_7, mLst_8, mLst_9, mLst_10, mLst_11, mLst_12, mLst_13, mLst_14, mLst_15, mLst_16, mLst_17, mLst_18, mLst_19, mLst_20, mDcx_e, mMeth_e, mMeth0_e, tyM_str, true_and, mLstO_0, mLstO_1, mLstO_2, mLstO_3, mLstO_4, mTup_4, mLstO_5, mLst_5, mTup_5, mLstO_6, mLst_6, mTup_6, gIsi_non_int, gIsi_non_bool, gIsi_non_tuple, gIsi_non_str, gIsi_non_list, fIs_non, gIsi_bl_int, gIsi_bl_bool, gIsi_bl_tuple, gIsi_bl_str, gIsi_bl_list, fIs_bl, gIsi_int_int, gIsi_int_bool, gIsi_int_tuple, gIsi_int_str, gIsi_int_list, fIs_int, gIsi_str_int, gIsi_str_bool, gIsi_str_tuple, gIsi_str_str, gIsi_str_list, fIs_str, gIsi_tup_int, gIsi_tup_bool, gIsi_tup_tuple, gIsi_tup_str, gIsi_tup_list, fIs_tup, gIsi_lst_int, gIsi_lst_bool, gIsi_lst_tuple, gIsi_lst_str, gIsi_lst_list, fIs_lst, gIsi_frz_int, gIsi_frz_bool, gIsi_frz_tuple, gIsi_frz_str, gIsi_frz_list, fIs_frz, gIsi_dct_int, gIsi_dct_bool, gIsi_dct_tuple, gIsi_dct_str, gIsi_dct_list, fIs_dct]
        exact q
      | true =>
        have hp : ∀ w ∈ ws, w ∈ D4 := fun w hw => of_decide_eq_true (List.all_eq_true.mp hc w hw)
        rw [if_pos ⟨c, hp⟩] at q
        simp only [Bool.not_true, mBody_e, startD_e, mNext_e, mSeq_e, mExpr_e, mRet_e, mRetN_e, mIfS_e, mBreak_e, mCont_e, mSet_e, mAsg_e, mPar2_e, mPar3_e, mVar_e, slot_0, slot_s, mC_e, mOp_e, mUn_e, mT_e, mAnd_e, mOr_e, mNot_e, mAndV_e, mOrV_e, mNotV_e, mIf_e, mTup_0, mTup_1, mTup_2, mTup_3, mLst_0, mLst_1, mLst_2, mLst_3, mLst_4, mCall_1, mCall_2, mCallF_1, mCallF_2, mCallF_3, mCallF_4, mFor_e, iR1_e, iZ_e, iE_e, iS_e, mLc_e, mLcO_e, mYes_e, gTg_e, bindT_nm, bindT_1, bindT_2, bindT_3, onEnv_s, onInt_i, onBl_b, onSeq_t, onSeq_l, onSeq_f, onZip_t, onZip_l, onEnum_t, onEnum_l, onT_t, onT_f, onSome_s, fAdd_ii, fAdd_tt, fAdd_ll, fAdd_ss, fSub_ii, fMul_ii, fMul_li, fDiv_ii, fMod_ii, fPow_ii, fNeg_i, fLe_ii, fGt_ii, fGe_ii, fLt_ii, fEq_ii, fEq_ss, fEq_bb, gLen_t, gLen_l, gLen_f, gInt_i, gInt_b, gBool_b, gList_t, gList_l, gList_f, gTuple_t, gTuple_l, gSum_t, gSum_l, fIx_t, fIx_l, fIx_f, fSl_t, fSl_l, fSl_f, fRev_t, fRev_l, wipeD_n, wipeD_c, mPN_e, mPS_e, mSl_e, mDct_e, mChain_e, gMax2_ii, fMulO_li, fMulT_e, iR2_e, fEqN_l, mLst_7, mLst_8, mLst_9, mLst_10, mLst_11, mLst_12, mLst_13, mLst_14, mLst_15, mLst_16, mLst_17, mLst_18, mLst_19, mLst_20, mDcx_e, mMeth_e, mMeth0_e, tyM_str, true_and, mLstO_0, mLstO_1, mLstO_2, mLstO_3, mLstO_4, mTup_4, mLstO_5, mLst_5, mTup_5, mLstO_6, mLst_6, mTup_6, gIsi_non_int, gIsi_non_bool, gIsi_non_tuple, gIsi_non_str, gIsi_non_list, fIs_non, gIsi_bl_int, gIsi_bl_bool, gIsi_bl_tuple, gIsi_bl_str, gIsi_bl_list, fIs_bl, gIsi_int_int, gIsi_int_bool, gIsi_int_tuple, gIsi_int_str, gIsi_int_list, fIs_int, gIsi_str_int, gIsi_str_bool, gIsi_str_tuple, gIsi_str_str, gIsi_str_list, fIs_str, gIsi_tup_int, gIsi_tup_bool, gIsi_tup_tuple, gIsi_tup_str, gIsi_tup_list, fIs_tup, gIsi_lst_int, gIsi_lst_bool, gIsi_lst_tuple, gIsi_lst_str, gIsi_lst_list, fIs_lst, gIsi_frz_int, gIsi_frz_bool, gIsi_frz_tuple, gIsi_frz_str, gIsi_frz_list, fIs_frz, gIsi_dct_int, gIsi_dct_bool, gIsi_dct_tuple, gIsi_dct_str, gIsi_dct_list, fIs_dct, app3 r__law_bag_in_2_e, List.map_cons, List.map_nil, List.length_cons, List.length_nil, List.cons_append, List.nil_append, List.set_cons_zero, List.set_cons_succ, List.replicate_zero, List.replicate_succ]
        refine lc_m (fun w : Str => DV.str w) (fun w => DV.int ((digS w).getD 0)) ws hl (fun w hw => ⟨_, bindT_nm, fun Qc hq => ?_⟩) ?_
        · obtain ⟨i, h1, _, h3⟩ := d4_of (hp w hw)
          rw [h1] at hq
          simp only [mBody_e, startD_e, mNext_e, mSeq_e, mExpr_e, mRet_e, mRetN_e, mIfS_e, mBreak_e, mCont_e, mSet_e, mAsg_e, mPar2_e, mPar3_e, mVar_e, slot_0, slot_s, mC_e, mOp_e, mUn_e, mT_e, mAnd_e, mOr_e, mNot_e, mAndV_e, mOrV_e, mNotV_e, mIf_e, mTup_0, mTup_1, mTup_2, mTup_3, mLst_0, mLst_1, mLst_2, mLst_3, mLst_4, mCall_1, mCall_2, mCallF_1, mCallF_2, mCallF_3, mCallF_4, mFor_e, iR1_e, iZ_e, iE_e, iS_e, mLc_e, mLcO_e, mYes_e, gTg_e, bindT_nm, bindT_1, bindT_2, bindT_3, onEnv_s, onInt_i, onBl_b, onSeq_t, onSeq_l, onSeq_f, onZip_t, onZip_l, onEnum_t, onEnum_l, onT_t, onT_f, onSome_s, fAdd_ii, fAdd_tt, fAdd_ll, fAdd_ss, fSub_ii, fMul_ii, fMul_li, fDiv_ii, fMod_ii, fPow_ii, fNeg_i, fLe_ii, fGt_ii, fGe_ii, fLt_ii, fEq_ii, fEq_ss, fEq_bb, gLen_t, gLen_l, gLen_f, gInt_i, gInt_b, gBool_b, gList_t, gList_l, gList_f, gTuple_t, gTuple_l, gSum_t, gSum_l, fIx_t, fIx_l, fIx_f, fSl_t, fSl_l, fSl_f, fRev_t, fRev_l, wipeD_n, wipeD_c, mPN_e, mPS_e, mSl_e, mDct_e, mChain_e, gMax2_ii, fMulO_li, fMulT_e, iR2_e, fEqN_l, mLst_7, mLst_8, mLst_9, mLst_10, mLst_11, mLst_12, mLst_13, mLst_14, mLst_15, mLst_16, mLst_17, mLst_18, mLst_19, mLst_20, mDcx_e, mMeth_e, mMeth0_e, tyM_str, true_and, mLstO_0, mLstO_1, mLstO_2, mLstO_3, mLstO_4, mTup_4, mLstO_5, mLst_5, mTup_5, mLstO_6, mLst_6, mTup_6, gIsi_non_int, gIsi_non_bool, gIsi_non_tuple, gIsi_non_str, gIsi_non_list, fIs_non, gIsi_bl_int, gIsi_bl_bool, gIsi_bl_tuple, gIsi_bl_str, gIsi_bl_list, fIs_bl, gIsi_int_int, gIsi_int_bool, gIsi_int_tuple, gIsi_int_str, gIsi_int_list, fIs_int, gIsi_str_int, gIsi_str_bool, gIsi_str_tuple, gIsi_str_str, gIsi_str_list, fIs_str, gIsi_tup_int, gIsi_tup_bool, gIsi_tup_tuple, gIsi_tup_str, gIsi_tup_list, fIs_tup, gIsi_lst_int, gIsi_lst_bool, gIsi_lst_tuple, gIsi_lst_str, gIsi_lst_list, fIs_lst, gIsi_frz_int, gIsi_frz_bool, gIsi_frz_tuple, gIsi_frz_str, gIsi_frz_list, fIs_frz, gIsi_dct_int, gIsi_dct_bool, gIsi_dct_tuple, gIsi_dct_str, gIsi_dct_list, fIs_dct, List.map_cons, List.map_nil, List.length_cons, List.length_nil, List.cons_append, List.nil_append, List.set_cons_zero, List.set_cons_succ, List.replicate_zero, List.replicate_succ]
          refine ⟨_, _, rfl, rfl, ?_⟩
          rw [h3]
          exact hq
        · have e3 : ws.map (fun w => DV.int ((digS w).getD 0)) = intsV (bagL ws) := by
            unfold intsV bagL
            rw [List.map_map]
            rfl
          rw [e3]
          simp only [app3 r__law_bag_in_1_e, mBody_e, startD_e, mNext_e, mSeq_e, mExpr_e, mRet_e, mRetN_e, mIfS_e, mBreak_e, mCont_e, mSet_e, mAsg_e, mPar2_e, mPar3_e, mVar_e, slot_0, slot_s, mC_e, mOp_e, mUn_e, mT_e, mAnd_e, mOr_e, mNot_e, mAndV_e, mOrV_e, mNotV_e, mIf_e, mTup_0, mTup_1, mTup_2, mTup_3, mLst_0, mLst_1, mLst_2, mLst_3, mLst_4, mCall_1, mCall_2, mCallF_1, mCallF_2, mCallF_3, mCallF_4, mFor_e, iR1_e, iZ_e, iE_e, iS_e, mLc_e, mLcO_e, mYes_e, gTg_e, bindT_nm, bindT_1, bindT_2, bindT_3, onEnv_s, onInt_i, onBl_b, onSeq_t, onSeq_l, onSeq_f, onZip_t, onZip_l, onEnum_t, onEnum_l, onT_t, onT_f, onSome_s, fAdd_ii, fAdd_tt, fAdd_ll, fAdd_ss, fSub_ii, fMul_ii, fMul_li, fDiv_ii, fMod_ii, fPow_ii, fNeg_i, fLe_ii, fGt_ii, fGe_ii, fLt_ii, fEq_ii, fEq_ss, fEq_bb, gLen_t, gLen_l, gLen_f, gInt_i, gInt_b, gBool_b, gList_t, gList_l, gList_f, gTuple_t, gTuple_l, gSum_t, gSum_l, fIx_t, fIx_l, fIx_f, fSl_t, fSl_l, fSl_f, fRev_t, fRev_l, wipeD_n, wipeD_c, mPN_e, mPS_e, mSl_e, mDct_e, mChain_e, gMax2_ii, fMulO_li, fMulT_e, iR2_e, fEqN_l, mLst_7, mLst_8, mLst_9, mLst_10, mLst_11, mLst_12, mLst_13, mLst_14, mLst_15, mLst_16, mLst_17, mLst_18, mLst_19, mLst_20, mDcx_e, mMeth_e, mMeth0_e, tyM_str, true_and, mLstO_0, mLstO_1, mLstO_2, mLstO_3, mLstO_4, mTup_4, mLstO_5, mLst_5, mTup_5, mLstO_6, mLst_6, mTup_6, gIsi_non_int, gIsi_non_bool, gIsi_non_tuple, gIsi_non_str, gIsi_non_list, fIs_non, gIsi_bl_int, gIsi_bl_bool, gIsi_bl_tuple, gIsi_bl_str, gIsi_bl_list, fIs_bl, gIsi_int_int, gIsi_int_bool, gIsi_int_tuple, gIsi_int_str, gIsi_int_list, fIs_int, gIsi_str_int, gIsi_str_bool, gIsi_str_tuple, gIsi_str_str, gIsi_str_list, fIs_str, gIsi_tup_int, gIsi_tup_bool, gIsi_tup_tuple, gIsi_tup_str, gIsi_tup_list, fIs_tup, gIsi_lst_int, gIsi_lst_bool, gIsi_lst_tuple, gIsi_lst_str, gIsi_lst_list, fIs_lst, gIsi_frz_int, gIsi_frz_bool, gIsi_frz_tuple, gIsi_frz_str, gIsi_frz_list, fIs_frz, gIsi_dct_int, gIsi_dct_bool, gIsi_dct_tuple, gIsi_dct_str, gIsi_dct_list, fIs_dct, List.map_cons, List.map_nil, List.length_cons, List.length_nil, List.cons_append, List.nil_append, List.set_cons_zero, List.set_cons_succ, List.replicate_zero, List.replicate_succ]
          by_cases h4 : (bagL ws).sum ≤ 4
          · rw [if_pos h4] at q
            simp only [decide_eq_true h4, mBody_e, startD_e, mNext_e, mSeq_e, mExpr_e, mRet_e, mRetN_e, mIfS_e, mBreak_e, mCont_e, mSet_e, mAsg_e, mPar2_e, mPar3_e, mVar_e, slot_0, slot_s, mC_e, mOp_e, mUn_e, mT_e, mAnd_e, mOr_e, mNot_e, mAndV_e, mOrV_e, mNotV_e, mIf_e, mTup_0, mTup_1, mTup_2, mTup_3, mLst_0, mLst_1, mLst_2, mLst_3, mLst_4, mCall_1, mCall_2, mCallF_1, mCallF_2, mCallF_3, mCallF_4, mFor_e, iR1_e, iZ_e, iE_e, iS_e, mLc_e, mLcO_e, mYes_e, gTg_e, bindT_nm, bindT_1, bindT_2, bindT_3, onEnv_s, onInt_i, onBl_b, onSeq_t, onSeq_l, onSeq_f, onZip_t, onZip_l, onEnum_t, onEnum_l, onT_t, onT_f, onSome_s, fAdd_ii, fAdd_tt, fAdd_ll, fAdd_ss, fSub_ii, fMul_ii, fMul_li, fDiv_ii, fMod_ii, fPow_ii, fNeg_i, fLe_ii, fGt_ii, fGe_ii, fLt_ii, fEq_ii, fEq_ss, fEq_bb, gLen_t, gLen_l, gLen_f, gInt_i, gInt_b, gBool_b, gList_t, gList_l, gList_f, gTuple_t, gTuple_l, gSum_t, gSum_l, fIx_t, fIx_l, fIx_f, fSl_t, fSl_l, fSl_f, fRev_t, fRev_l, wipeD_n, wipeD_c, mPN_e, mPS_e, mSl_e, mDct_e, mChain_e, gMax2_ii, fMulO_li, fMulT_e, iR2_e, fEqN_l, mLst_7, mLst_8, mLst_9, mLst_10, mLst_11, mLst_12, mLst_13, mLst_14, mLst_15, mLst_16, mLst_17, mLst_18, mLst_19, mLst_20, mDcx_e, mMeth_e, mMeth0_e, tyM_str, true_and, mLstO_0, mLstO_1, mLstO_2, mLstO_3, mLstO_4, mTup_4, mLstO_5, mLst_5, mTup_5, mLstO_6, mLst_6, mTup_6, gIsi_non_int, gIsi_non_bool, gIsi_non_tuple, gIsi_non_str, gIsi_non_list, fIs_non, gIsi_bl_int, gIsi_bl_bool, gIsi_bl_tuple, gIsi_bl_str, gIsi_bl_list, fIs_bl, gIsi_int_int, gIsi_int_bool, gIsi_int_tuple, gIsi_int_str, gIsi_int_list, fIs_int, gIsi_str_int, gIsi_str_bool, gIsi_str_tuple, gIsi_str_str, gIsi_str_list, fIs_str, gIsi_tup_int, gIsi_tup_bool, gIsi_tup_tuple, gIsi_tup_str, gIsi_tup_list, fIs_tup, gIsi_lst_int, gIsi_lst_bool, gIsi_lst_tuple, gIsi_lst_str, gIsi_lst_list, fIs_lst, gIsi_frz_int, gIsi_frz_bool, gIsi_frz_tuple, gIsi_frz_str, gIsi_frz_list, fIs_frz, gIsi_dct_int, gIsi_dct_bool, gIsi_dct_tuple, gIsi_dct_str, gIsi_dct_list, fIs_dct]
            exact q
          · rw [if_neg h4] at q
            simp only [decide_eq_false h4, mBody_e, startD_e, mNext_e, mSeq_e, mExpr_e, mRet_e, mRetN_e, mIfS_e, mBreak_e, mCont_e, mSet_e, mAsg_e, mPar2_e, mPar3_e, mVar_e, slot_0, slot_s, mC_e, mOp_e, mUn_e, mT_e, mAnd_e, mOr_e, mNot_e, mAndV_e, mOrV_e, mNotV_e, mIf_e, mTup_0, mTup_1, mTup_2, mTup_3, mLst_0, mLst_1, mLst_2, mLst_3, mLst_4, mCall_1, mCall_2, mCallF_1, mCallF_2, mCallF_3, mCallF_4, mFor_e, iR1_e, iZ_e, iE_e, iS_e, mLc_e, mLcO_e, mYes_e, gTg_e, bindT_nm, bindT_1, bindT_2, bindT_3, onEnv_s, onInt_i, onBl_b, onSeq_t, onSeq_l, onSeq_f, onZip_t, onZip_l, onEnum_t, onEnum_l, onT_t, onT_f, onSome_s, fAdd_ii, fAdd_tt, fAdd_ll, fAdd_ss, fSub_ii, fMul_ii, fMul_li, fDiv_ii, fMod_ii, fPow_ii, fNeg_i, fLe_ii, fGt_ii, fGe_ii, fLt_ii, fEq_ii, fEq_ss, fEq_bb, gLen_t, gLen_l, gLen_f, gInt_i, gInt_b, gBool_b, gList_t, gList_l, gList_f, gTuple_t, gTuple_l, gSum_t, gSum_l, fIx_t, fIx_l, fIx_f, fSl_t, fSl_l, fSl_f, fRev_t, fRev_l, wipeD_n, wipeD_c, mPN_e, mPS_e, mSl_e, mDct_e, mChain_e, gMax2_ii, fMulO_li, fMulT_e, iR2_e, fEqN_l, mLst_7, mLst_8, mLst_9, mLst_10, mLst_11, mLst_12, mLst_13, mLst_14, mLst_15, mLst_16, mLst_17, mLst_18, mLst_19, mLst_20, mDcx_e, mMeth_e, mMeth0_e, tyM_str, true_and, mLstO_0, mLstO_1, mLstO_2, mLstO_3, mLstO_4, mTup_4, mLstO_5, mLst_5, mTup_5, mLstO_6, mLst_6, mTup_6, gIsi_non_int, gIsi_non_bool, gIsi_non_tuple, gIsi_non_str, gIsi_non_list, fIs_non, gIsi_bl_int, gIsi_bl_bool, gIsi_bl_tuple, gIsi_bl_str, gIsi_bl_list, fIs_bl, gIsi_int_int, gIsi_int_bool, gIsi_int_tuple, gIsi_int_str, gIsi_int_list, fIs_int, gIsi_str_int, gIsi_str_bool, gIsi_str_tuple, gIsi_str_str, gIsi_str_list, fIs_str, gIsi_tup_int, gIsi_tup_bool, gIsi_tup_tuple, gIsi_tup_str, gIsi_tup_list, fIs_tup, gIsi_lst_int, gIsi_lst_bool, gIsi_lst_tuple, gIsi_lst_str, gIsi_lst_list, fIs_lst, gIsi_frz_int, gIsi_frz_bool, gIsi_frz_tuple, gIsi_frz_str, gIsi_frz_list, fIs_frz, gIsi_dct_int, gIsi_dct_bool, gIsi_dct_tuple, gIsi_dct_str, gIsi_dct_list, fIs_dct]
            exact q
  · have c' : ¬ ((ws.length : Nat) : Int) = (g : Int) := by omega
    rw [if_neg fun z => c z.1] at q
    simp only [decide_eq_false c', Bool.not_false, mBody_e, startD_e, mNext_e, mSeq_e, mExpr_e, mRet_e, mRetN_e, mIfS_e, mBreak_e, mCont_e, mSet_e, mAsg_e, mPar2_e, mPar3_e, mVar_e, slot_0, slot_s, mC_e, mOp_e, mUn_e, mT_e, mAnd_e, mOr_e, mNot_e, mAndV_e, mOrV_e, mNotV_e, mIf_e, mTup_0, mTup_1, mTup_2, mTup_3, mLst_0, mLst_1, mLst_2, mLst_3, mLst_4, mCall_1, mCall_2, mCallF_1, mCallF_2, mCallF_3, mCallF_4, mFor_e, iR1_e, iZ_e, iE_e, iS_e, mLc_e, mLcO_e, mYes_e, gTg_e, bindT_nm, bindT_1, bindT_2, bindT_3, onEnv_s, onInt_i, onBl_b, onSeq_t, onSeq_l, onSeq_f, onZip_t, onZip_l, onEnum_t, onEnum_l, onT_t, onT_f, onSome_s, fAdd_ii, fAdd_tt, fAdd_ll, fAdd_ss, fSub_ii, fMul_ii, fMul_li, fDiv_ii, fMod_ii, fPow_ii, fNeg_i, fLe_ii, fGt_ii, fGe_ii, fLt_ii, fEq_ii, fEq_ss, fEq_bb, gLen_t, gLen_l, gLen_f, gInt_i, gInt_b, gBool_b, gList_t, gList_l, gList_f, gTuple_t, gTuple_l, gSum_t, gSum_l, fIx_t, fIx_l, fIx_f, fSl_t, fSl_l, fSl_f, fRev_t, fRev_l, wipeD_n, wipeD_c, mPN_e, mPS_e, mSl_e, mDct_e, mChain_e, gMax2_ii, fMulO_li, fMulT_e, iR2_e, fEqN_l, mLst_7, mLst_8, mLst_9, mLst_10, mLst_11, mLst_12, mLst_13, mLst_14, mLst_15, mLst_16, mLst_17, mLst_18, mLst_19, mLst_20, mDcx_e, mMeth_e, mMeth0_e, tyM_str, true_and, mLstO_0, mLstO_1, mLstO_2, mLstO_3, mLstO_4, mTup_4, mLstO_5, mLst_5, mTup_5, mLstO_6, mLst_6, mTup_6, gIsi_non_int, gIsi_non_bool, gIsi_non_tuple, gIsi_non_str, gIsi_non_list, fIs_non, gIsi_bl_int, gIsi_bl_bool, gIsi_bl_tuple, gIsi_bl_str, gIsi_bl_list, fIs_bl, gIsi_int_int, gIsi_int_bool, gIsi_int_tuple, gIsi_int_str, gIsi_int_list, fIs_int, gIsi_str_int, gIsi_str_bool, gIsi_str_tuple, gIsi_str_str, gIsi_str_list, fIs_str, gIsi_tup_int, gIsi_tup_bool, gIsi_tup_tuple, gIsi_tup_str, gIsi_tup_list, fIs_tup, gIsi_lst_int, gIsi_lst_bool, gIsi_lst_tuple, gIsi_lst_str, gIsi_lst_list, fIs_lst, gIsi_frz_int, gIsi_frz_bool, gIsi_frz_tuple, gIsi_frz_str, gIsi_frz_list, fIs_frz, gIsi_dct_int, gIsi_dct_bool, gIsi_dct_tuple, gIsi_dct_str, gIsi_dct_list, fIs_dct]
    exact q
theorem mem_joinL' {S : List Nat} {c : Nat} : ∀ {P : List (List Nat)} {p : List Nat}, p ∈ P → c ∈ p → c ∈ joinL S P
  | [], _, h, _ => nomatch h
  | [q], p, h, hc => by
    rw [List.mem_singleton.mp h] at hc
    exact hc
  | q :: r :: P, p, h, hc => by
    simp only [joinL, List.mem_append]
    rcases List.mem_cons.mp h with rfl | h
    · exact .inl hc
    · exact .inr (.inr (mem_joinL' (P := r :: P) h hc))
theorem split_sg {x y : Str} (h : Sg x) : ∀ w ∈ Txt.split x y, Sg w := fun w hw c hc => by
  have e := PySem.StrLaws.join_split x y
  refine h c ?_
  rw [← e, tl_join]
  exact mem_joinL' (List.mem_map_of_mem (f := tl) hw) hc
theorem goodsS_in (l : Str) : decide (l ∈ [Str.ofString "goods 1", Str.ofString "goods 2", Str.ofString "goods 3", Str.ofString "goods 4"]) = !decide (goodsS l = 0) := by
  have e1 : headT 1 = Str.ofString "goods 1" := by decide +kernel
  have e2 : headT 2 = Str.ofString "goods 2" := by decide +kernel
  have e3 : headT 3 = Str.ofString "goods 3" := by decide +kernel
  have e4 : headT 4 = Str.ofString "goods 4" := by decide +kernel
  unfold goodsS
  rw [e1, e2, e3, e4]
  by_cases h1 : l = Str.ofString "goods 1"
  · simp [h1]
  · by_cases h2 : l = Str.ofString "goods 2"
    · subst h2
      decide +kernel
    · by_cases h3 : l = Str.ofString "goods 3"
      · subst h3
        decide +kernel
      · by_cases h4 : l = Str.ofString "goods 4"
        · subst h4
          decide +kernel
        · simp [h1, h2, h3, h4]
theorem goods_last {l : Str} (h : goodsS l ≠ 0) : ∃ c, l.length ≤ 16777216 ∧ atI l.cps.toList (-1) = some c ∧ Txt.find (Str.ofString "01234") ⟨#[c]⟩ = (goodsS l : Int) := by
  unfold goodsS at h ⊢
  by_cases h1 : l = headT 1
  · subst h1
    exact ⟨49, by decide +kernel, by decide +kernel, by decide +kernel⟩
  · by_cases h2 : l = headT 2
    · subst h2
      exact ⟨50, by decide +kernel, by decide +kernel, by decide +kernel⟩
    · by_cases h3 : l = headT 3
      · subst h3
        exact ⟨51, by decide +kernel, by decide +kernel, by decide +kernel⟩
      · by_cases h4 : l = headT 4
        · subst h4
          exact ⟨52, by decide +kernel, by decide +kernel, by decide +kernel⟩
        · rw [if_neg h1, if_neg h2, if_neg h3, if_neg h4] at h
          exact absurd rfl h
theorem rngD_cons (lo : Int) (n : Nat) : rngD lo (n + 1) = .int lo :: rngD (lo + 1) n := rfl
theorem due_ok {x : Str} {S : Store} {Q : MK DV} {E : MX} (hx : x.length ≤ 1000000) (hs : Sg x) (q : ∀ ds, Q (foundV (readS x)) (S ++ [some (.lst ds)])) : m__law_due [.str x] S Q E := by
  simp only [app4 m__law_due_e, app3 b__law_due_e, mBody_e, startD_e, mNext_e, mSeq_e, mExpr_e, mRet_e, mRetN_e, mIfS_e, mBreak_e, mCont_e, mSet_e, mAsg_e, mPar2_e, mPar3_e, mVar_e, slot_0, slot_s, mC_e, mOp_e, mUn_e, mT_e, mAnd_e, mOr_e, mNot_e, mAndV_e, mOrV_e, mNotV_e, mIf_e, mTup_0, mTup_1, mTup_2, mTup_3, mLst_0, mLst_1, mLst_2, mLst_3, mLst_4, mCall_1, mCall_2, mCallF_1, mCallF_2, mCallF_3, mCallF_4, mFor_e, iR1_e, iZ_e, iE_e, iS_e, mLc_e, mLcO_e, mYes_e, gTg_e, bindT_nm, bindT_1, bindT_2, bindT_3, onEnv_s, onInt_i, onBl_b, onSeq_t, onSeq_l, onSeq_f, onZip_t, onZip_l, onEnum_t, onEnum_l, onT_t, onT_f, onSome_s, fAdd_ii, fAdd_tt, fAdd_ll, fAdd_ss, fSub_ii, fMul_ii, fMul_li, fDiv_ii, fMod_ii, fPow_ii, fNeg_i, fLe_ii, fGt_ii, fGe_ii, fLt_ii, fEq_ii, fEq_ss, fEq_bb, gLen_t, gLen_l, gLen_f, gInt_i, gInt_b, gBool_b, gList_t, gList_l, gList_f, gTuple_t, gTuple_l, gSum_t, gSum_l, fIx_t, fIx_l, fIx_f, fSl_t, fSl_l, fSl_f, fRev_t, fRev_l, wipeD_n, wipeD_c, mPN_e, mPS_e, mSl_e, mDct_e, mChain_e, gMax2_ii, fMulO_li, fMulT_e, iR2_e, fEqN_l, mLst_7, mLst_8, mLst_9, mLst_10, mLst_11, mLst_12, mLst_13, mLst_14, mLst_15, mLst_16, mLst_17, mLst_18, mLst_19, mLst_20, mDcx_e, mMeth_e, mMeth0_e, tyM_str, true_and, mLstO_0, mLstO_1, mLstO_2, mLstO_3, mLstO_4, mTup_4, mLstO_5, mLst_5, mTup_5, mLstO_6, mLst_6, mTup_6, gIsi_non_int, gIsi_non_bool, gIsi_non_tuple, gIsi_non_str, gIsi_non_list, fIs_non, gIsi_bl_int, gIsi_bl_bool, gIsi_bl_tuple, gIsi_bl_str, gIsi_bl_list, fIs_bl, gIsi_int_int, gIsi_int_bool, gIsi_int_tuple, gIsi_int_str, gIsi_int_list, fIs_int, gIsi_str_int, gIsi_str_bool, gIsi_str_tuple, gIsi_str_str, gIsi_str_list, fIs_str, gIsi_tup_int, gIsi_tup_bool, gIsi_tup_tuple, gIsi_tup_str, gIsi_tup_list, fIs_tup, gIsi_lst_int, gIsi_lst_bool, gIsi_lst_tuple, gIsi_lst_str, gIsi_lst_list, fIs_lst, gIsi_frz_int, gIsi_frz_bool, gIsi_frz_tuple, gIsi_frz_str, gIsi_frz_list, fIs_frz, gIsi_dct_int, gIsi_dct_bool, gIsi_dct_tuple, gIsi_dct_str, gIsi_dct_list, fIs_dct, List.map_cons, List.map_nil, List.length_cons, List.length_nil, List.cons_append, List.nil_append, List.set_cons_zero, List.set_cons_succ, List.replicate_zero, List.replicate_succ]
  refine ⟨_, _, rfl, rfl, by decide +kernel, by omega, ?_⟩
  have hl : ∀ w ∈ Txt.split x (Str.ofString "\n"), w.length ≤ 1000000 := fun w hw => by
    have := len_split hw
    omega
  have hg := split_sg (y := Str.ofString "\n") hs
  have hc : (Txt.split x (Str.ofString "\n")).length ≤ 1000002 := by
    have := PyProof.Rows.split_le x (Str.ofString "\n")
    omega
  have hn := split_ne x (Str.ofString "\n")
  unfold readS at q
  generalize Txt.split x (Str.ofString "\n") = lines at q hl hn hc hg ⊢
  match lines, q, hl, hn, hc, hg with
  | [], _, _, hn, _, _ => exact absurd rfl hn
  | l :: ls, q, hl, _, hc, hg =>
    have q' : ∀ ds, Q (foundV (if goodsS l = 0 then .bad 0 else readL (goodsS l) 0 ls [])) (S ++ [some (.lst ds)]) := q
    have ea : atI (strsV (l :: ls)) 0 = some (.str l) := by
      rw [strsV_cons]
      exact atI_0
    simp only [app3 r__law_due_7_e, mBody_e, startD_e, mNext_e, mSeq_e, mExpr_e, mRet_e, mRetN_e, mIfS_e, mBreak_e, mCont_e, mSet_e, mAsg_e, mPar2_e, mPar3_e, mVar_e, slot_0, slot_s, mC_e, mOp_e, mUn_e, mT_e, mAnd_e, mOr_e, mNot_e, mAndV_e, mOrV_e, mNotV_e, mIf_e, mTup_0, mTup_1, mTup_2, mTup_3, mLst_0, mLst_1, mLst_2, mLst_3, mLst_4, mCall_1, mCall_2, mCallF_1, mCallF_2, mCallF_3, mCallF_4, mFor_e, iR1_e, iZ_e, iE_e, iS_e, mLc_e, mLcO_e, mYes_e, gTg_e, bindT_nm, bindT_1, bindT_2, bindT_3, onEnv_s, onInt_i, onBl_b, onSeq_t, onSeq_l, onSeq_f, onZip_t, onZip_l, onEnum_t, onEnum_l, onT_t, onT_f, onSome_s, fAdd_ii, fAdd_tt, fAdd_ll, fAdd_ss, fSub_ii, fMul_ii, fMul_li, fDiv_ii, fMod_ii, fPow_ii, fNeg_i, fLe_ii, fGt_ii, fGe_ii, fLt_ii, fEq_ii, fEq_ss, fEq_bb, gLen_t, gLen_l, gLen_f, gInt_i, gInt_b, gBool_b, gList_t, gList_l, gList_f, gTuple_t, gTuple_l, gSum_t, gSum_l, fIx_t, fIx_l, fIx_f, fSl_t, fSl_l, fSl_f, fRev_t, fRev_l, wipeD_n, wipeD_c, mPN_e, mPS_e, mSl_e, mDct_e, mChain_e, gMax2_ii, fMulO_li, fMulT_e, iR2_e, fEqN_l, mLst_7, mLst_8, mLst_9, mLst_10, mLst_11, mLst_12, mLst_13, mLst_14, mLst_15, mLst_16, mLst_17, mLst_18, mLst_19, mLst_20, mDcx_e, mMeth_e, mMeth0_e, tyM_str, true_and, mLstO_0, mLstO_1, mLstO_2, mLstO_3, mLstO_4, mTup_4, mLstO_5, mLst_5, mTup_5, mLstO_6, mLst_6, mTup_6, gIsi_non_int, gIsi_non_bool, gIsi_non_tuple, gIsi_non_str, gIsi_non_list, fIs_non, gIsi_bl_int, gIsi_bl_bool, gIsi_bl_tuple, gIsi_bl_str, gIsi_bl_list, fIs_bl, gIsi_int_int, gIsi_int_bool, gIsi_int_tuple, gIsi_int_str, gIsi_int_list, fIs_int, gIsi_str_int, gIsi_str_bool, gIsi_str_tuple, gIsi_str_str, gIsi_str_list, fIs_str, gIsi_tup_int, gIsi_tup_bool, gIsi_tup_tuple, gIsi_tup_str, gIsi_tup_list, fIs_tup, gIsi_lst_int, gIsi_lst_bool, gIsi_lst_tuple, gIsi_lst_str, gIsi_lst_list, fIs_lst, gIsi_frz_int, gIsi_frz_bool, gIsi_frz_tuple, gIsi_frz_str, gIsi_frz_list, fIs_frz, gIsi_dct_int, gIsi_dct_bool, gIsi_dct_tuple, gIsi_dct_str, gIsi_dct_list, fIs_dct, List.map_cons, List.map_nil, List.length_cons, List.length_nil, List.cons_append, List.nil_append, List.set_cons_zero, List.set_cons_succ, List.replicate_zero, List.replicate_succ, ea]
    refine in_strs (L := [Str.ofString "goods 1", Str.ofString "goods 2", Str.ofString "goods 3", Str.ofString "goods 4"]) (hg l List.mem_cons_self) (by
      intro y hy
      simp only [List.mem_cons, List.not_mem_nil, or_false] at hy
      unfold Sg
      rcases hy with rfl | rfl | rfl | rfl <;> decide +kernel) ?_
    rw [goodsS_in]
    by_cases c : goodsS l = 0
    · have q2 := q' []
      rw [if_pos c] at q2
      simp only [decide_eq_true c, Bool.not_true, Bool.not_false, mBody_e, startD_e, mNext_e, mSeq_e, mExpr_e, mRet_e, mRetN_e, mIfS_e, mBreak_e, mCont_e, mSet_e, mAsg_e, mPar2_e, mPar3_e, mVar_e, slot_0, slot_s, mC_e, mOp_e, mUn_e, mT_e, mAnd_e, mOr_e, mNot_e, mAndV_e, mOrV_e, mNotV_e, mIf_e, mTup_0, mTup_1, mTup_2, mTup_3, mLst_0, mLst_1, mLst_2, mLst_3, mLst_4, mCall_1, mCall_2, mCallF_1, mCallF_2, mCallF_3, mCallF_4, mFor_e, iR1_e, iZ_e, iE_e, iS_e, mLc_e, mLcO_e, mYes_e, gTg_e, bindT_nm, bindT_1, bindT_2, bindT_3, onEnv_s, onInt_i, onBl_b, onSeq_t, onSeq_l, onSeq_f, onZip_t, onZip_l, onEnum_t, onEnum_l, onT_t, onT_f, onSome_s, fAdd_ii, fAdd_tt, fAdd_ll, fAdd_ss, fSub_ii, fMul_ii, fMul_li, fDiv_ii, fMod_ii, fPow_ii, fNeg_i, fLe_ii, fGt_ii, fGe_ii, fLt_ii, fEq_ii, fEq_ss, fEq_bb, gLen_t, gLen_l, gLen_f, gInt_i, gInt_b, gBool_b, gList_t, gList_l, gList_f, gTuple_t, gTuple_l, gSum_t, gSum_l, fIx_t, fIx_l, fIx_f, fSl_t, fSl_l, fSl_f, fRev_t, fRev_l, wipeD_n, wipeD_c, mPN_e, mPS_e, mSl_e, mDct_e, mChain_e, gMax2_ii, fMulO_li, fMulT_e, iR2_e, fEqN_l, mLst_7, mLst_8, mLst_9, mLst_10, mLst_11, mLst_12, mLst_13, mLst_14, mLst_15, mLst_16, mLst_17, mLst_18, mLst_19, mLst_20, mDcx_e, mMeth_e, mMeth0_e, tyM_str, true_and, mLstO_0, mLstO_1, mLstO_2, mLstO_3, mLstO_4, mTup_4, mLstO_5, mLst_5, mTup_5, mLstO_6, mLst_6, mTup_6, gIsi_non_int, gIsi_non_bool, gIsi_non_tuple, gIsi_non_str, gIsi_non_list, fIs_non, gIsi_bl_int, gIsi_bl_bool, gIsi_bl_tuple, gIsi_bl_str, gIsi_bl_list, fIs_bl, gIsi_int_int, gIsi_int_bool, gIsi_int_tuple, gIsi_int_str, gIsi_int_list, fIs_int, gIsi_str_int, gIsi_str_bool, gIsi_str_tuple, gIsi_str_str, gIsi_str_list, fIs_str, gIsi_tup_int, gIsi_tup_bool, gIsi_tup_tuple, gIsi_tup_str, gIsi_tup_list, fIs_tup, gIsi_lst_int, gIsi_lst_bool, gIsi_lst_tuple, gIsi_lst_str, gIsi_lst_list, fIs_lst, gIsi_frz_int, gIsi_frz_bool, gIsi_frz_tuple, gIsi_frz_str, gIsi_frz_list, fIs_frz, gIsi_dct_int, gIsi_dct_bool, gIsi_dct_tuple, gIsi_dct_str, gIsi_dct_list, fIs_dct]
      exact q2
    · have q2 := fun ds => q' ds
      rw [if_neg c] at q2
      obtain ⟨ch, g1, g2, g3⟩ := goods_last c
      have g4 : goodsS l ≤ 4 := by
        unfold goodsS
        repeat' split
        all_goals omega
      simp only [decide_eq_false c, Bool.not_true, Bool.not_false, mBody_e, startD_e, mNext_e, mSeq_e, mExpr_e, mRet_e, mRetN_e, mIfS_e, mBreak_e, mCont_e, mSet_e, mAsg_e, mPar2_e, mPar3_e, mVar_e, slot_0, slot_s, mC_e, mOp_e, mUn_e, mT_e, mAnd_e, mOr_e, mNot_e, mAndV_e, mOrV_e, mNotV_e, mIf_e, mTup_0, mTup_1, mTup_2, mTup_3, mLst_0, mLst_1, mLst_2, mLst_3, mLst_4, mCall_1, mCall_2, mCallF_1, mCallF_2, mCallF_3, mCallF_4, mFor_e, iR1_e, iZ_e, iE_e, iS_e, mLc_e, mLcO_e, mYes_e, gTg_e, bindT_nm, bindT_1, bindT_2, bindT_3, onEnv_s, onInt_i, onBl_b, onSeq_t, onSeq_l, onSeq_f, onZip_t, onZip_l, onEnum_t, onEnum_l, onT_t, onT_f, onSome_s, fAdd_ii, fAdd_tt, fAdd_ll, fAdd_ss, fSub_ii, fMul_ii, fMul_li, fDiv_ii, fMod_ii, fPow_ii, fNeg_i, fLe_ii, fGt_ii, fGe_ii, fLt_ii, fEq_ii, fEq_ss, fEq_bb, gLen_t, gLen_l, gLen_f, gInt_i, gInt_b, gBool_b, gList_t, gList_l, gList_f, gTuple_t, gTuple_l, gSum_t, gSum_l, fIx_t, fIx_l, fIx_f, fSl_t, fSl_l, fSl_f, fRev_t, fRev_l, wipeD_n, wipeD_c, mPN_e, mPS_e, mSl_e, mDct_e, mChain_e, gMax2_ii, fMulO_li, fMulT_e, iR2_e, fEqN_l, mLst_7, mLst_8, mLst_9, mLst_10, mLst_11, mLst_12, mLst_13, mLst_14, mLst_15, mLst_16, mLst_17, mLst_18, mLst_19, mLst_20, mDcx_e, mMeth_e, mMeth0_e, tyM_str, true_and, mLstO_0, mLstO_1, mLstO_2, mLstO_3, mLstO_4, mTup_4, mLstO_5, mLst_5, mTup_5, mLstO_6, mLst_6, mTup_6, gIsi_non_int, gIsi_non_bool, gIsi_non_tuple, gIsi_non_str, gIsi_non_list, fIs_non, gIsi_bl_int, gIsi_bl_bool, gIsi_bl_tuple, gIsi_bl_str, gIsi_bl_list, fIs_bl, gIsi_int_int, gIsi_int_bool, gIsi_int_tuple, gIsi_int_str, gIsi_int_list, fIs_int, gIsi_str_int, gIsi_str_bool, gIsi_str_tuple, gIsi_str_str, gIsi_str_list, fIs_str, gIsi_tup_int, gIsi_tup_bool, gIsi_tup_tuple, gIsi_tup_str, gIsi_tup_list, fIs_tup, gIsi_lst_int, gIsi_lst_bool, gIsi_lst_tuple, gIsi_lst_str, gIsi_lst_list, fIs_lst, gIsi_frz_int, gIsi_frz_bool, gIsi_frz_tuple, gIsi_frz_str, gIsi_frz_list, fIs_frz, gIsi_dct_int, gIsi_dct_bool, gIsi_dct_tuple, gIsi_dct_str, gIsi_dct_list, fIs_dct, app3 r__law_due_6_e, List.map_cons, List.map_nil, List.length_cons, List.length_nil, List.cons_append, List.nil_append, List.set_cons_zero, List.set_cons_succ, List.replicate_zero, List.replicate_succ, ea]
      refine ⟨l, -1, ch, rfl, rfl, g1, g2, ?_⟩
      refine ⟨_, _, rfl, rfl, ?_⟩
      rw [g3]
      simp only [app3 r__law_due_5_e, mBody_e, startD_e, mNext_e, mSeq_e, mExpr_e, mRet_e, mRetN_e, mIfS_e, mBreak_e, mCont_e, mSet_e, mAsg_e, mPar2_e, mPar3_e, mVar_e, slot_0, slot_s, mC_e, mOp_e, mUn_e, mT_e, mAnd_e, mOr_e, mNot_e, mAndV_e, mOrV_e, mNotV_e, mIf_e, mTup_0, mTup_1, mTup_2, mTup_3, mLst_0, mLst_1, mLst_2, mLst_3, mLst_4, mCall_1, mCall_2, mCallF_1, mCallF_2, mCallF_3, mCallF_4, mFor_e, iR1_e, iZ_e, iE_e, iS_e, mLc_e, mLcO_e, mYes_e, gTg_e, bindT_nm, bindT_1, bindT_2, bindT_3, onEnv_s, onInt_i, onBl_b, onSeq_t, onSeq_l, onSeq_f, onZip_t, onZip_l, onEnum_t, onEnum_l, onT_t, onT_f, onSome_s, fAdd_ii, fAdd_tt, fAdd_ll, fAdd_ss, fSub_ii, fMul_ii, fMul_li, fDiv_ii, fMod_ii, fPow_ii, fNeg_i, fLe_ii, fGt_ii, fGe_ii, fLt_ii, fEq_ii, fEq_ss, fEq_bb, gLen_t, gLen_l, gLen_f, gInt_i, gInt_b, gBool_b, gList_t, gList_l, gList_f, gTuple_t, gTuple_l, gSum_t, gSum_l, fIx_t, fIx_l, fIx_f, fSl_t, fSl_l, fSl_f, fRev_t, fRev_l, wipeD_n, wipeD_c, mPN_e, mPS_e, mSl_e, mDct_e, mChain_e, gMax2_ii, fMulO_li, fMulT_e, iR2_e, fEqN_l, mLst_7, mLst_8, mLst_9, mLst_10, mLst_11, mLst_12, mLst_13, mLst_14, mLst_15, mLst_16, mLst_17, mLst_18, mLst_19, mLst_20, mDcx_e, mMeth_e, mMeth0_e, tyM_str, true_and, mLstO_0, mLstO_1, mLstO_2, mLstO_3, mLstO_4, mTup_4, mLstO_5, mLst_5, mTup_5, mLstO_6, mLst_6, mTup_6, gIsi_non_int, gIsi_non_bool, gIsi_non_tuple, gIsi_non_str, gIsi_non_list, fIs_non, gIsi_bl_int, gIsi_bl_bool, gIsi_bl_tuple, gIsi_bl_str, gIsi_bl_list, fIs_bl, gIsi_int_int, gIsi_int_bool, gIsi_int_tuple, gIsi_int_str, gIsi_int_list, fIs_int, gIsi_str_int, gIsi_str_bool, gIsi_str_tuple, gIsi_str_str, gIsi_str_list, fIs_str, gIsi_tup_int, gIsi_tup_bool, gIsi_tup_tuple, gIsi_tup_str, gIsi_tup_list, fIs_tup, gIsi_lst_int, gIsi_lst_bool, gIsi_lst_tuple, gIsi_lst_str, gIsi_lst_list, fIs_lst, gIsi_frz_int, gIsi_frz_bool, gIsi_frz_tuple, gIsi_frz_str, gIsi_frz_list, fIs_frz, gIsi_dct_int, gIsi_dct_bool, gIsi_dct_tuple, gIsi_dct_str, gIsi_dct_list, fIs_dct, List.map_cons, List.map_nil, List.length_cons, List.length_nil, List.cons_append, List.nil_append, List.set_cons_zero, List.set_cons_succ, List.replicate_zero, List.replicate_succ, strsV_len]
      refine ⟨by simp at hc ⊢; omega, ?_⟩
      generalize goodsS l = g at c q2 g4
      have key : ∀ (rest pre : List Str) (k : Nat) (acc : List Rl) (d0 d4 d5 d6 d7 : Option DV) (D : EndsD), D.rt = Q → pre ++ rest = l :: ls → pre.length = k + 1 → k ≤ 4 → acc.length = k → (∀ ds, Q (foundV (readL g k rest acc)) (S ++ [some (.lst ds)])) →
          forGo (gTg (.nm 4)) f__law_due_1 { D with nx := r__law_due_4 D } (rngD ((k : Int) + 1) rest.length) [d0, some (.lst (strsV (l :: ls))), some (.ref S.length), some (.int g), d4, d5, d6, d7] (S ++ [some (.lst (rsV acc))]) := by
        intro rest
        induction rest with
        | nil =>
          intro pre k acc d0 d4 d5 d6 d7 D hD _ _ _ _ hq
          show r__law_due_4 D _ _
          simp only [app3 r__law_due_4_e, mBody_e, startD_e, mNext_e, mSeq_e, mExpr_e, mRet_e, mRetN_e, mIfS_e, mBreak_e, mCont_e, mSet_e, mAsg_e, mPar2_e, mPar3_e, mVar_e, slot_0, slot_s, mC_e, mOp_e, mUn_e, mT_e, mAnd_e, mOr_e, mNot_e, mAndV_e, mOrV_e, mNotV_e, mIf_e, mTup_0, mTup_1, mTup_2, mTup_3, mLst_0, mLst_1, mLst_2, mLst_3, mLst_4, mCall_1, mCall_2, mCallF_1, mCallF_2, mCallF_3, mCallF_4, mFor_e, iR1_e, iZ_e, iE_e, iS_e, mLc_e, mLcO_e, mYes_e, gTg_e, bindT_nm, bindT_1, bindT_2, bindT_3, onEnv_s, onInt_i, onBl_b, onSeq_t, onSeq_l, onSeq_f, onZip_t, onZip_l, onEnum_t, onEnum_l, onT_t, onT_f, onSome_s, fAdd_ii, fAdd_tt, fAdd_ll, fAdd_ss, fSub_ii, fMul_ii, fMul_li, fDiv_ii, fMod_ii, fPow_ii, fNeg_i, fLe_ii, fGt_ii, fGe_ii, fLt_ii, fEq_ii, fEq_ss, fEq_bb, gLen_t, gLen_l, gLen_f, gInt_i, gInt_b, gBool_b, gList_t, gList_l, gList_f, gTuple_t, gTuple_l, gSum_t, gSum_l, fIx_t, fIx_l, fIx_f, fSl_t, fSl_l, fSl_f, fRev_t, fRev_l, wipeD_n, wipeD_c, mPN_e, mPS_e, mSl_e, mDct_e, mChain_e, gMax2_ii, fMulO_li, fMulT_e, iR2_e, fEqN_l, mLst_7, mLst_8, mLst_9, mLst_10, mLst_11, mLst_12, mLst_13, mLst_14, mLst_15, mLst_16, mLst_17, mLst_18, mLst_19, mLst_20, mDcx_e, mMeth_e, mMeth0_e, tyM_str, true_and, mLstO_0, mLstO_1, mLstO_2, mLstO_3, mLstO_4, mTup_4, mLstO_5, mLst_5, mTup_5, mLstO_6, mLst_6, mTup_6, gIsi_non_int, gIsi_non_bool, gIsi_non_tuple, gIsi_non_str, gIsi_non_list, fIs_non, gIsi_bl_int, gIsi_bl_bool, gIsi_bl_tuple, gIsi_bl_str, gIsi_bl_list, fIs_bl, gIsi_int_int, gIsi_int_bool, gIsi_int_tuple, gIsi_int_str, gIsi_int_list, fIs_int, gIsi_str_int, gIsi_str_bool, gIsi_str_tuple, gIsi_str_str, gIsi_str_list, fIs_str, gIsi_tup_int, gIsi_tup_bool, gIsi_tup_tuple, gIsi_tup_str, gIsi_tup_list, fIs_tup, gIsi_lst_int, gIsi_lst_bool, gIsi_lst_tuple, gIsi_lst_str, gIsi_lst_list, fIs_lst, gIsi_frz_int, gIsi_frz_bool, gIsi_frz_tuple, gIsi_frz_str, gIsi_frz_list, fIs_frz, gIsi_dct_int, gIsi_dct_bool, gIsi_dct_tuple, gIsi_dct_str, gIsi_dct_list, fIs_dct, List.map_cons, List.map_nil, List.length_cons, List.length_nil, List.cons_append, List.nil_append, List.set_cons_zero, List.set_cons_succ, List.replicate_zero, List.replicate_succ, hD]
          rw [ref_tuple get_last]
          exact hq _
        | cons w rest ih =>
          intro pre k acc d0 d4 d5 d6 d7 D hD hpre hk hk4 ha hq
          have hw : w ∈ l :: ls := by
            rw [← hpre]
            simp
          have e1 : atI (strsV (l :: ls)) ((k : Int) + 1) = some (.str w) := by
            rw [show (k : Int) + 1 = ((k + 1 : Nat) : Int) by omega, DL.atI_at, ← hpre]
            unfold strsV
            rw [List.getElem?_map, List.getElem?_append_right (by omega), hk, Nat.sub_self]
            rfl
          rw [List.length_cons, rngD_cons]
          simp only [forGo_c, app3 f__law_due_1_e, mBody_e, startD_e, mNext_e, mSeq_e, mExpr_e, mRet_e, mRetN_e, mIfS_e, mBreak_e, mCont_e, mSet_e, mAsg_e, mPar2_e, mPar3_e, mVar_e, slot_0, slot_s, mC_e, mOp_e, mUn_e, mT_e, mAnd_e, mOr_e, mNot_e, mAndV_e, mOrV_e, mNotV_e, mIf_e, mTup_0, mTup_1, mTup_2, mTup_3, mLst_0, mLst_1, mLst_2, mLst_3, mLst_4, mCall_1, mCall_2, mCallF_1, mCallF_2, mCallF_3, mCallF_4, mFor_e, iR1_e, iZ_e, iE_e, iS_e, mLc_e, mLcO_e, mYes_e, gTg_e, bindT_nm, bindT_1, bindT_2, bindT_3, onEnv_s, onInt_i, onBl_b, onSeq_t, onSeq_l, onSeq_f, onZip_t, onZip_l, onEnum_t, onEnum_l, onT_t, onT_f, onSome_s, fAdd_ii, fAdd_tt, fAdd_ll, fAdd_ss, fSub_ii, fMul_ii, fMul_li, fDiv_ii, fMod_ii, fPow_ii, fNeg_i, fLe_ii, fGt_ii, fGe_ii, fLt_ii, fEq_ii, fEq_ss, fEq_bb, gLen_t, gLen_l, gLen_f, gInt_i, gInt_b, gBool_b, gList_t, gList_l, gList_f, gTuple_t, gTuple_l, gSum_t, gSum_l, fIx_t, fIx_l, fIx_f, fSl_t, fSl_l, fSl_f, fRev_t, fRev_l, wipeD_n, wipeD_c, mPN_e, mPS_e, mSl_e, mDct_e, mChain_e, gMax2_ii, fMulO_li, fMulT_e, iR2_e, fEqN_l, mLst_7, mLst_8, mLst_9, mLst_10, mLst_11, mLst_12, mLst_13, mLst_14, mLst_15, mLst_16, mLst_17, mLst_18, mLst_19, mLst_20, mDcx_e, mMeth_e, mMeth0_e, tyM_str, true_and, mLstO_0, mLstO_1, mLstO_2, mLstO_3, mLstO_4, mTup_4, mLstO_5, mLst_5, mTup_5, mLstO_6, mLst_6, mTup_6, gIsi_non_int, gIsi_non_bool, gIsi_non_tuple, gIsi_non_str, gIsi_non_list, fIs_non, gIsi_bl_int, gIsi_bl_bool, gIsi_bl_tuple, gIsi_bl_str, gIsi_bl_list, fIs_bl, gIsi_int_int, gIsi_int_bool, gIsi_int_tuple, gIsi_int_str, gIsi_int_list, fIs_int, gIsi_str_int, gIsi_str_bool, gIsi_str_tuple, gIsi_str_str, gIsi_str_list, fIs_str, gIsi_tup_int, gIsi_tup_bool, gIsi_tup_tuple, gIsi_tup_str, gIsi_tup_list, fIs_tup, gIsi_lst_int, gIsi_lst_bool, gIsi_lst_tuple, gIsi_lst_str, gIsi_lst_list, fIs_lst, gIsi_frz_int, gIsi_frz_bool, gIsi_frz_tuple, gIsi_frz_str, gIsi_frz_list, fIs_frz, gIsi_dct_int, gIsi_dct_bool, gIsi_dct_tuple, gIsi_dct_str, gIsi_dct_list, fIs_dct, List.map_cons, List.map_nil, List.length_cons, List.length_nil, List.cons_append, List.nil_append, List.set_cons_zero, List.set_cons_succ, List.replicate_zero, List.replicate_succ, e1]
          refine ⟨_, _, rfl, rfl, by decide +kernel, by have := hl w hw; omega, ?_⟩
          unfold readL at hq
          unfold tradeS at hq
          have sgw := split_sg (y := Str.ofString " ") (hg w hw)
          have lnw : (Txt.split w (Str.ofString " ")).length < 16777216 := by
            have := PyProof.Rows.split_le w (Str.ofString " ")
            have := hl w hw
            omega
          generalize Txt.split w (Str.ofString " ") = ws at hq sgw lnw ⊢
          simp only [app3 r__law_due_3_e, mBody_e, startD_e, mNext_e, mSeq_e, mExpr_e, mRet_e, mRetN_e, mIfS_e, mBreak_e, mCont_e, mSet_e, mAsg_e, mPar2_e, mPar3_e, mVar_e, slot_0, slot_s, mC_e, mOp_e, mUn_e, mT_e, mAnd_e, mOr_e, mNot_e, mAndV_e, mOrV_e, mNotV_e, mIf_e, mTup_0, mTup_1, mTup_2, mTup_3, mLst_0, mLst_1, mLst_2, mLst_3, mLst_4, mCall_1, mCall_2, mCallF_1, mCallF_2, mCallF_3, mCallF_4, mFor_e, iR1_e, iZ_e, iE_e, iS_e, mLc_e, mLcO_e, mYes_e, gTg_e, bindT_nm, bindT_1, bindT_2, bindT_3, onEnv_s, onInt_i, onBl_b, onSeq_t, onSeq_l, onSeq_f, onZip_t, onZip_l, onEnum_t, onEnum_l, onT_t, onT_f, onSome_s, fAdd_ii, fAdd_tt, fAdd_ll, fAdd_ss, fSub_ii, fMul_ii, fMul_li, fDiv_ii, fMod_ii, fPow_ii, fNeg_i, fLe_ii, fGt_ii, fGe_ii, fLt_ii, fEq_ii, fEq_ss, fEq_bb, gLen_t, gLen_l, gLen_f, gInt_i, gInt_b, gBool_b, gList_t, gList_l, gList_f, gTuple_t, gTuple_l, gSum_t, gSum_l, fIx_t, fIx_l, fIx_f, fSl_t, fSl_l, fSl_f, fRev_t, fRev_l, wipeD_n, wipeD_c, mPN_e, mPS_e, mSl_e, mDct_e, mChain_e, gMax2_ii, fMulO_li, fMulT_e, iR2_e, fEqN_l, mLst_7, mLst_8, mLst_9, mLst_10, mLst_11, mLst_12, mLst_13, mLst_14, mLst_15, mLst_16, mLst_17, mLst_18, mLst_19, mLst_20, mDcx_e, mMeth_e, mMeth0_e, tyM_str, true_and, mLstO_0, mLstO_1, mLstO_2, mLstO_3, mLstO_4, mTup_4, mLstO_5, mLst_5, mTup_5, mLstO_6, mLst_6, mTup_6, gIsi_non_int, gIsi_non_bool, gIsi_non_tuple, gIsi_non_str, gIsi_non_list, fIs_non, gIsi_bl_int, gIsi_bl_bool, gIsi_bl_tuple, gIsi_bl_str, gIsi_bl_list, fIs_bl, gIsi_int_int, gIsi_int_bool, gIsi_int_tuple, gIsi_int_str, gIsi_int_list, fIs_int, gIsi_str_int, gIsi_str_bool, gIsi_str_tuple, gIsi_str_str, gIsi_str_list, fIs_str, gIsi_tup_int, gIsi_tup_bool, gIsi_tup_tuple, gIsi_tup_str, gIsi_tup_list, fIs_tup, gIsi_lst_int, gIsi_lst_bool, gIsi_lst_tuple, gIsi_lst_str, gIsi_lst_list, fIs_lst, gIsi_frz_int, gIsi_frz_bool, gIsi_frz_tuple, gIsi_frz_str, gIsi_frz_list, fIs_frz, gIsi_dct_int, gIsi_dct_bool, gIsi_dct_tuple, gIsi_dct_str, gIsi_dct_list, fIs_dct, List.map_cons, List.map_nil, List.length_cons, List.length_nil, List.cons_append, List.nil_append, List.set_cons_zero, List.set_cons_succ, List.replicate_zero, List.replicate_succ]
          have f1 : DL.cutD (strsV ws) none (some (g : Int)) = strsV (ws.take g) := by
            rw [LB.cut_take]
            unfold strsV
            rw [List.map_take]
          have f2 : DL.cutD (strsV ws) (some ((g : Int) + 1)) none = strsV (ws.drop (g + 1)) := by
            rw [show (g : Int) + 1 = ((g + 1 : Nat) : Int) by omega, LB.cut_drop]
            unfold strsV
            rw [List.map_drop]
          rw [f1]
          refine bag_in_ok (by rw [List.length_take]; omega) (fun y hy => sgw y (List.mem_of_mem_take hy)) ?_
          simp only [mBody_e, startD_e, mNext_e, mSeq_e, mExpr_e, mRet_e, mRetN_e, mIfS_e, mBreak_e, mCont_e, mSet_e, mAsg_e, mPar2_e, mPar3_e, mVar_e, slot_0, slot_s, mC_e, mOp_e, mUn_e, mT_e, mAnd_e, mOr_e, mNot_e, mAndV_e, mOrV_e, mNotV_e, mIf_e, mTup_0, mTup_1, mTup_2, mTup_3, mLst_0, mLst_1, mLst_2, mLst_3, mLst_4, mCall_1, mCall_2, mCallF_1, mCallF_2, mCallF_3, mCallF_4, mFor_e, iR1_e, iZ_e, iE_e, iS_e, mLc_e, mLcO_e, mYes_e, gTg_e, bindT_nm, bindT_1, bindT_2, bindT_3, onEnv_s, onInt_i, onBl_b, onSeq_t, onSeq_l, onSeq_f, onZip_t, onZip_l, onEnum_t, onEnum_l, onT_t, onT_f, onSome_s, fAdd_ii, fAdd_tt, fAdd_ll, fAdd_ss, fSub_ii, fMul_ii, fMul_li, fDiv_ii, fMod_ii, fPow_ii, fNeg_i, fLe_ii, fGt_ii, fGe_ii, fLt_ii, fEq_ii, fEq_ss, fEq_bb, gLen_t, gLen_l, gLen_f, gInt_i, gInt_b, gBool_b, gList_t, gList_l, gList_f, gTuple_t, gTuple_l, gSum_t, gSum_l, fIx_t, fIx_l, fIx_f, fSl_t, fSl_l, fSl_f, fRev_t, fRev_l, wipeD_n, wipeD_c, mPN_e, mPS_e, mSl_e, mDct_e, mChain_e, gMax2_ii, fMulO_li, fMulT_e, iR2_e, fEqN_l, mLst_7, mLst_8, mLst_9, mLst_10, mLst_11, mLst_12, mLst_13, mLst_14, mLst_15, mLst_16, mLst_17, mLst_18, mLst_19, mLst_20, mDcx_e, mMeth_e, mMeth0_e, tyM_str, true_and, mLstO_0, mLstO_1, mLstO_2, mLstO_3, mLstO_4, mTup_4, mLstO_5, mLst_5, mTup_5, mLstO_6, mLst_6, mTup_6, gIsi_non_int, gIsi_non_bool, gIsi_non_tuple, gIsi_non_str, gIsi_non_list, fIs_non, gIsi_bl_int, gIsi_bl_bool, gIsi_bl_tuple, gIsi_bl_str, gIsi_bl_list, fIs_bl, gIsi_int_int, gIsi_int_bool, gIsi_int_tuple, gIsi_int_str, gIsi_int_list, fIs_int, gIsi_str_int, gIsi_str_bool, gIsi_str_tuple, gIsi_str_str, gIsi_str_list, fIs_str, gIsi_tup_int, gIsi_tup_bool, gIsi_tup_tuple, gIsi_tup_str, gIsi_tup_list, fIs_tup, gIsi_lst_int, gIsi_lst_bool, gIsi_lst_tuple, gIsi_lst_str, gIsi_lst_list, fIs_lst, gIsi_frz_int, gIsi_frz_bool, gIsi_frz_tuple, gIsi_frz_str, gIsi_frz_list, fIs_frz, gIsi_dct_int, gIsi_dct_bool, gIsi_dct_tuple, gIsi_dct_str, gIsi_dct_list, fIs_dct, List.map_cons, List.map_nil, List.length_cons, List.length_nil, List.cons_append, List.nil_append, List.set_cons_zero, List.set_cons_succ, List.replicate_zero, List.replicate_succ, f2]
          refine bag_in_ok (by rw [List.length_drop]; omega) (fun y hy => sgw y (List.mem_of_mem_drop hy)) ?_
          simp only [app3 r__law_due_2_e, mBody_e, startD_e, mNext_e, mSeq_e, mExpr_e, mRet_e, mRetN_e, mIfS_e, mBreak_e, mCont_e, mSet_e, mAsg_e, mPar2_e, mPar3_e, mVar_e, slot_0, slot_s, mC_e, mOp_e, mUn_e, mT_e, mAnd_e, mOr_e, mNot_e, mAndV_e, mOrV_e, mNotV_e, mIf_e, mTup_0, mTup_1, mTup_2, mTup_3, mLst_0, mLst_1, mLst_2, mLst_3, mLst_4, mCall_1, mCall_2, mCallF_1, mCallF_2, mCallF_3, mCallF_4, mFor_e, iR1_e, iZ_e, iE_e, iS_e, mLc_e, mLcO_e, mYes_e, gTg_e, bindT_nm, bindT_1, bindT_2, bindT_3, onEnv_s, onInt_i, onBl_b, onSeq_t, onSeq_l, onSeq_f, onZip_t, onZip_l, onEnum_t, onEnum_l, onT_t, onT_f, onSome_s, fAdd_ii, fAdd_tt, fAdd_ll, fAdd_ss, fSub_ii, fMul_ii, fMul_li, fDiv_ii, fMod_ii, fPow_ii, fNeg_i, fLe_ii, fGt_ii, fGe_ii, fLt_ii, fEq_ii, fEq_ss, fEq_bb, gLen_t, gLen_l, gLen_f, gInt_i, gInt_b, gBool_b, gList_t, gList_l, gList_f, gTuple_t, gTuple_l, gSum_t, gSum_l, fIx_t, fIx_l, fIx_f, fSl_t, fSl_l, fSl_f, fRev_t, fRev_l, wipeD_n, wipeD_c, mPN_e, mPS_e, mSl_e, mDct_e, mChain_e, gMax2_ii, fMulO_li, fMulT_e, iR2_e, fEqN_l, mLst_7, mLst_8, mLst_9, mLst_10, mLst_11, mLst_12, mLst_13, mLst_14, mLst_15, mLst_16, mLst_17, mLst_18, mLst_19, mLst_20, mDcx_e, mMeth_e, mMeth0_e, tyM_str, true_and, mLstO_0, mLstO_1, mLstO_2, mLstO_3, mLstO_4, mTup_4, mLstO_5, mLst_5, mTup_5, mLstO_6, mLst_6, mTup_6, gIsi_non_int, gIsi_non_bool, gIsi_non_tuple, gIsi_non_str, gIsi_non_list, fIs_non, gIsi_bl_int, gIsi_bl_bool, gIsi_bl_tuple, gIsi_bl_str, gIsi_bl_list, fIs_bl, gIsi_int_int, gIsi_int_bool, gIsi_int_tuple, gIsi_int_str, gIsi_int_list, fIs_int, gIsi_str_int, gIsi_str_bool, gIsi_str_tuple, gIsi_str_str, gIsi_str_list, fIs_str, gIsi_tup_int, gIsi_tup_bool, gIsi_tup_tuple, gIsi_tup_str, gIsi_tup_list, fIs_tup, gIsi_lst_int, gIsi_lst_bool, gIsi_lst_tuple, gIsi_lst_str, gIsi_lst_list, fIs_lst, gIsi_frz_int, gIsi_frz_bool, gIsi_frz_tuple, gIsi_frz_str, gIsi_frz_list, fIs_frz, gIsi_dct_int, gIsi_dct_bool, gIsi_dct_tuple, gIsi_dct_str, gIsi_dct_list, fIs_dct, List.map_cons, List.map_nil, List.length_cons, List.length_nil, List.cons_append, List.nil_append, List.set_cons_zero, List.set_cons_succ, List.replicate_zero, List.replicate_succ]
          have bad : (∀ ds, Q (.lst [.str (Str.ofString "bad"), .int ((k + 1 : Nat) : Int)]) (S ++ [some (.lst ds)])) → D.rt (.lst [.str (Str.ofString "bad"), .int ((k : Int) + 1)]) (S ++ [some (.lst (rsV acc))]) := fun h => by
            rw [hD]
            have := h (rsV acc)
            rw [show ((k + 1 : Nat) : Int) = (k : Int) + 1 by omega] at this
            exact this
          cases h1 : lawB (ws.take g) g with
          | none =>
            have hb : ∀ ds, Q (.lst [.str (Str.ofString "bad"), .int ((k + 1 : Nat) : Int)]) (S ++ [some (.lst ds)]) := by
              by_cases cl : ws.length = 2 * g + 1 ∧ ws[g]? = some (Str.ofString "=")
              · rw [if_pos cl, ← lawB_eq (g := g) (by rw [List.length_take]; omega), h1] at hq
                exact hq
              · rw [if_neg cl] at hq
                exact hq
            simp only [optB, mBody_e, startD_e, mNext_e, mSeq_e, mExpr_e, mRet_e, mRetN_e, mIfS_e, mBreak_e, mCont_e, mSet_e, mAsg_e, mPar2_e, mPar3_e, mVar_e, slot_0, slot_s, mC_e, mOp_e, mUn_e, mT_e, mAnd_e, mOr_e, mNot_e, mAndV_e, mOrV_e, mNotV_e, mIf_e, mTup_0, mTup_1, mTup_2, mTup_3, mLst_0, mLst_1, mLst_2, mLst_3, mLst_4, mCall_1, mCall_2, mCallF_1, mCallF_2, mCallF_3, mCallF_4, mFor_e, iR1_e, iZ_e, iE_e, iS_e, mLc_e, mLcO_e, mYes_e, gTg_e, bindT_nm, bindT_1, bindT_2, bindT_3, onEnv_s, onInt_i, onBl_b, onSeq_t, onSeq_l, onSeq_f, onZip_t, onZip_l, onEnum_t, onEnum_l, onT_t, onT_f, onSome_s, fAdd_ii, fAdd_tt, fAdd_ll, fAdd_ss, fSub_ii, fMul_ii, fMul_li, fDiv_ii, fMod_ii, fPow_ii, fNeg_i, fLe_ii, fGt_ii, fGe_ii, fLt_ii, fEq_ii, fEq_ss, fEq_bb, gLen_t, gLen_l, gLen_f, gInt_i, gInt_b, gBool_b, gList_t, gList_l, gList_f, gTuple_t, gTuple_l, gSum_t, gSum_l, fIx_t, fIx_l, fIx_f, fSl_t, fSl_l, fSl_f, fRev_t, fRev_l, wipeD_n, wipeD_c, mPN_e, mPS_e, mSl_e, mDct_e, mChain_e, gMax2_ii, fMulO_li, fMulT_e, iR2_e, fEqN_l, mLst_7, mLst_8, mLst_9, mLst_10, mLst_11, mLst_12, mLst_13, mLst_14, mLst_15, mLst_16, mLst_17, mLst_18, mLst_19, mLst_20, mDcx_e, mMeth_e, mMeth0_e, tyM_str, true_and, mLstO_0, mLstO_1, mLstO_2, mLstO_3, mLstO_4, mTup_4, mLstO_5, mLst_5, mTup_5, mLstO_6, mLst_6, mTup_6, gIsi_non_int, gIsi_non_bool, gIsi_non_tuple, gIsi_non_str, gIsi_non_list, fIs_non, gIsi_bl_int, gIsi_bl_bool, gIsi_bl_tuple, gIsi_bl_str, gIsi_bl_list, fIs_bl, gIsi_int_int, gIsi_int_bool, gIsi_int_tuple, gIsi_int_str, gIsi_int_list, fIs_int, gIsi_str_int, gIsi_str_bool, gIsi_str_tuple, gIsi_str_str, gIsi_str_list, fIs_str, gIsi_tup_int, gIsi_tup_bool, gIsi_tup_tuple, gIsi_tup_str, gIsi_tup_list, fIs_tup, gIsi_lst_int, gIsi_lst_bool, gIsi_lst_tuple, gIsi_lst_str, gIsi_lst_list, fIs_lst, gIsi_frz_int, gIsi_frz_bool, gIsi_frz_tuple, gIsi_frz_str, gIsi_frz_list, fIs_frz, gIsi_dct_int, gIsi_dct_bool, gIsi_dct_tuple, gIsi_dct_str, gIsi_dct_list, fIs_dct]
            exact bad hb
          | some a =>
            cases h2 : lawB (ws.drop (g + 1)) g with
            | none =>
              have hb : ∀ ds, Q (.lst [.str (Str.ofString "bad"), .int ((k + 1 : Nat) : Int)]) (S ++ [some (.lst ds)]) := by
                by_cases cl : ws.length = 2 * g + 1 ∧ ws[g]? = some (Str.ofString "=")
                · rw [if_pos cl, ← lawB_eq (g := g) (by rw [List.length_take]; omega), ← lawB_eq (ws := ws.drop (g + 1)) (g := g) (by rw [List.length_drop]; omega), h1, h2] at hq
                  exact hq
                · rw [if_neg cl] at hq
                  exact hq
              simp only [optB, mBody_e, startD_e, mNext_e, mSeq_e, mExpr_e, mRet_e, mRetN_e, mIfS_e, mBreak_e, mCont_e, mSet_e, mAsg_e, mPar2_e, mPar3_e, mVar_e, slot_0, slot_s, mC_e, mOp_e, mUn_e, mT_e, mAnd_e, mOr_e, mNot_e, mAndV_e, mOrV_e, mNotV_e, mIf_e, mTup_0, mTup_1, mTup_2, mTup_3, mLst_0, mLst_1, mLst_2, mLst_3, mLst_4, mCall_1, mCall_2, mCallF_1, mCallF_2, mCallF_3, mCallF_4, mFor_e, iR1_e, iZ_e, iE_e, iS_e, mLc_e, mLcO_e, mYes_e, gTg_e, bindT_nm, bindT_1, bindT_2, bindT_3, onEnv_s, onInt_i, onBl_b, onSeq_t, onSeq_l, onSeq_f, onZip_t, onZip_l, onEnum_t, onEnum_l, onT_t, onT_f, onSome_s, fAdd_ii, fAdd_tt, fAdd_ll, fAdd_ss, fSub_ii, fMul_ii, fMul_li, fDiv_ii, fMod_ii, fPow_ii, fNeg_i, fLe_ii, fGt_ii, fGe_ii, fLt_ii, fEq_ii, fEq_ss, fEq_bb, gLen_t, gLen_l, gLen_f, gInt_i, gInt_b, gBool_b, gList_t, gList_l, gList_f, gTuple_t, gTuple_l, gSum_t, gSum_l, fIx_t, fIx_l, fIx_f, fSl_t, fSl_l, fSl_f, fRev_t, fRev_l, wipeD_n, wipeD_c, mPN_e, mPS_e, mSl_e, mDct_e, mChain_e, gMax2_ii, fMulO_li, fMulT_e, iR2_e, fEqN_l, mLst_7, mLst_8, mLst_9, mLst_10, mLst_11, mLst_12, mLst_13, mLst_14, mLst_15, mLst_16, mLst_17, mLst_18, mLst_19, mLst_20, mDcx_e, mMeth_e, mMeth0_e, tyM_str, true_and, mLstO_0, mLstO_1, mLstO_2, mLstO_3, mLstO_4, mTup_4, mLstO_5, mLst_5, mTup_5, mLstO_6, mLst_6, mTup_6, gIsi_non_int, gIsi_non_bool, gIsi_non_tuple, gIsi_non_str, gIsi_non_list, fIs_non, gIsi_bl_int, gIsi_bl_bool, gIsi_bl_tuple, gIsi_bl_str, gIsi_bl_list, fIs_bl, gIsi_int_int, gIsi_int_bool, gIsi_int_tuple, gIsi_int_str, gIsi_int_list, fIs_int, gIsi_str_int, gIsi_str_bool, gIsi_str_tuple, gIsi_str_str, gIsi_str_list, fIs_str, gIsi_tup_int, gIsi_tup_bool, gIsi_tup_tuple, gIsi_tup_str, gIsi_tup_list, fIs_tup, gIsi_lst_int, gIsi_lst_bool, gIsi_lst_tuple, gIsi_lst_str, gIsi_lst_list, fIs_lst, gIsi_frz_int, gIsi_frz_bool, gIsi_frz_tuple, gIsi_frz_str, gIsi_frz_list, fIs_frz, gIsi_dct_int, gIsi_dct_bool, gIsi_dct_tuple, gIsi_dct_str, gIsi_dct_list, fIs_dct]
              exact bad hb
            | some b =>
              have l1 := lawB_len h1
              have l2 := lawB_len h2
              rw [List.length_take] at l1
              rw [List.length_drop] at l2
              have lw : ws.length = 2 * g + 1 := by omega
              have hgw : g < ws.length := by omega
              have e5 : atI (strsV ws) (g : Int) = some (.str ws[g]) := by
                rw [DL.atI_at]
                unfold strsV
                rw [List.getElem?_map, List.getElem?_eq_getElem hgw]
                rfl
              rw [List.getElem?_eq_getElem hgw, ← lawB_eq (g := g) (by rw [List.length_take]; omega), ← lawB_eq (ws := ws.drop (g + 1)) (g := g) (by rw [List.length_drop]; omega), h1, h2] at hq
              simp only [optB, mBody_e, startD_e, mNext_e, mSeq_e, mExpr_e, mRet_e, mRetN_e, mIfS_e, mBreak_e, mCont_e, mSet_e, mAsg_e, mPar2_e, mPar3_e, mVar_e, slot_0, slot_s, mC_e, mOp_e, mUn_e, mT_e, mAnd_e, mOr_e, mNot_e, mAndV_e, mOrV_e, mNotV_e, mIf_e, mTup_0, mTup_1, mTup_2, mTup_3, mLst_0, mLst_1, mLst_2, mLst_3, mLst_4, mCall_1, mCall_2, mCallF_1, mCallF_2, mCallF_3, mCallF_4, mFor_e, iR1_e, iZ_e, iE_e, iS_e, mLc_e, mLcO_e, mYes_e, gTg_e, bindT_nm, bindT_1, bindT_2, bindT_3, onEnv_s, onInt_i, onBl_b, onSeq_t, onSeq_l, onSeq_f, onZip_t, onZip_l, onEnum_t, onEnum_l, onT_t, onT_f, onSome_s, fAdd_ii, fAdd_tt, fAdd_ll, fAdd_ss, fSub_ii, fMul_ii, fMul_li, fDiv_ii, fMod_ii, fPow_ii, fNeg_i, fLe_ii, fGt_ii, fGe_ii, fLt_ii, fEq_ii, fEq_ss, fEq_bb, gLen_t, gLen_l, gLen_f, gInt_i, gInt_b, gBool_b, gList_t, gList_l, gList_f, gTuple_t, gTuple_l, gSum_t, gSum_l, fIx_t, fIx_l, fIx_f, fSl_t, fSl_l, fSl_f, fRev_t, fRev_l, wipeD_n, wipeD_c, mPN_e, mPS_e, mSl_e, mDct_e, mChain_e, gMax2_ii, fMulO_li, fMulT_e, iR2_e, fEqN_l, mLst_7, mLst_8, mLst_9, mLst_10, mLst_11, mLst_12, mLst_13, mLst_14, mLst_15, mLst_16, mLst_17, mLst_18, mLst_19, mLst_20, mDcx_e, mMeth_e, mMeth0_e, tyM_str, true_and, mLstO_0, mLstO_1, mLstO_2, mLstO_3, mLstO_4, mTup_4, mLstO_5, mLst_5, mTup_5, mLstO_6, mLst_6, mTup_6, gIsi_non_int, gIsi_non_bool, gIsi_non_tuple, gIsi_non_str, gIsi_non_list, fIs_non, gIsi_bl_int, gIsi_bl_bool, gIsi_bl_tuple, gIsi_bl_str, gIsi_bl_list, fIs_bl, gIsi_int_int, gIsi_int_bool, gIsi_int_tuple, gIsi_int_str, gIsi_int_list, fIs_int, gIsi_str_int, gIsi_str_bool, gIsi_str_tuple, gIsi_str_str, gIsi_str_list, fIs_str, gIsi_tup_int, gIsi_tup_bool, gIsi_tup_tuple, gIsi_tup_str, gIsi_tup_list, fIs_tup, gIsi_lst_int, gIsi_lst_bool, gIsi_lst_tuple, gIsi_lst_str, gIsi_lst_list, fIs_lst, gIsi_frz_int, gIsi_frz_bool, gIsi_frz_tuple, gIsi_frz_str, gIsi_frz_list, fIs_frz, gIsi_dct_int, gIsi_dct_bool, gIsi_dct_tuple, gIsi_dct_str, gIsi_dct_list, fIs_dct, e5]
              by_cases ce : ws[g] = Str.ofString "="
              · rw [if_pos ⟨lw, by rw [ce]⟩] at hq
                have hq' : ∀ ds, Q (foundV (if k = 4 then .bad (k + 1) else readL g (k + 1) rest (acc ++ [(a, b)]))) (S ++ [some (.lst ds)]) := hq
                simp only [decide_eq_true ce, Bool.not_true, mBody_e, startD_e, mNext_e, mSeq_e, mExpr_e, mRet_e, mRetN_e, mIfS_e, mBreak_e, mCont_e, mSet_e, mAsg_e, mPar2_e, mPar3_e, mVar_e, slot_0, slot_s, mC_e, mOp_e, mUn_e, mT_e, mAnd_e, mOr_e, mNot_e, mAndV_e, mOrV_e, mNotV_e, mIf_e, mTup_0, mTup_1, mTup_2, mTup_3, mLst_0, mLst_1, mLst_2, mLst_3, mLst_4, mCall_1, mCall_2, mCallF_1, mCallF_2, mCallF_3, mCallF_4, mFor_e, iR1_e, iZ_e, iE_e, iS_e, mLc_e, mLcO_e, mYes_e, gTg_e, bindT_nm, bindT_1, bindT_2, bindT_3, onEnv_s, onInt_i, onBl_b, onSeq_t, onSeq_l, onSeq_f, onZip_t, onZip_l, onEnum_t, onEnum_l, onT_t, onT_f, onSome_s, fAdd_ii, fAdd_tt, fAdd_ll, fAdd_ss, fSub_ii, fMul_ii, fMul_li, fDiv_ii, fMod_ii, fPow_ii, fNeg_i, fLe_ii, fGt_ii, fGe_ii, fLt_ii, fEq_ii, fEq_ss, fEq_bb, gLen_t, gLen_l, gLen_f, gInt_i, gInt_b, gBool_b, gList_t, gList_l, gList_f, gTuple_t, gTuple_l, gSum_t, gSum_l, fIx_t, fIx_l, fIx_f, fSl_t, fSl_l, fSl_f, fRev_t, fRev_l, wipeD_n, wipeD_c, mPN_e, mPS_e, mSl_e, mDct_e, mChain_e, gMax2_ii, fMulO_li, fMulT_e, iR2_e, fEqN_l, mLst_7, mLst_8, mLst_9, mLst_10, mLst_11, mLst_12, mLst_13, mLst_14, mLst_15, mLst_16, mLst_17, mLst_18, mLst_19, mLst_20, mDcx_e, mMeth_e, mMeth0_e, tyM_str, true_and, mLstO_0, mLstO_1, mLstO_2, mLstO_3, mLstO_4, mTup_4, mLstO_5, mLst_5, mTup_5, mLstO_6, mLst_6, mTup_6, gIsi_non_int, gIsi_non_bool, gIsi_non_tuple, gIsi_non_str, gIsi_non_list, fIs_non, gIsi_bl_int, gIsi_bl_bool, gIsi_bl_tuple, gIsi_bl_str, gIsi_bl_list, fIs_bl, gIsi_int_int, gIsi_int_bool, gIsi_int_tuple, gIsi_int_str, gIsi_int_list, fIs_int, gIsi_str_int, gIsi_str_bool, gIsi_str_tuple, gIsi_str_str, gIsi_str_list, fIs_str, gIsi_tup_int, gIsi_tup_bool, gIsi_tup_tuple, gIsi_tup_str, gIsi_tup_list, fIs_tup, gIsi_lst_int, gIsi_lst_bool, gIsi_lst_tuple, gIsi_lst_str, gIsi_lst_list, fIs_lst, gIsi_frz_int, gIsi_frz_bool, gIsi_frz_tuple, gIsi_frz_str, gIsi_frz_list, fIs_frz, gIsi_dct_int, gIsi_dct_bool, gIsi_dct_tuple, gIsi_dct_str, gIsi_dct_list, fIs_dct]
                by_cases c4 : k = 4
                · rw [if_pos c4] at hq'
                  rw [decide_eq_true (show (4 : Int) < (k : Int) + 1 by omega)]
                  simp only [mBody_e, startD_e, mNext_e, mSeq_e, mExpr_e, mRet_e, mRetN_e, mIfS_e, mBreak_e, mCont_e, mSet_e, mAsg_e, mPar2_e, mPar3_e, mVar_e, slot_0, slot_s, mC_e, mOp_e, mUn_e, mT_e, mAnd_e, mOr_e, mNot_e, mAndV_e, mOrV_e, mNotV_e, mIf_e, mTup_0, mTup_1, mTup_2, mTup_3, mLst_0, mLst_1, mLst_2, mLst_3, mLst_4, mCall_1, mCall_2, mCallF_1, mCallF_2, mCallF_3, mCallF_4, mFor_e, iR1_e, iZ_e, iE_e, iS_e, mLc_e, mLcO_e, mYes_e, gTg_e, bindT_nm, bindT_1, bindT_2, bindT_3, onEnv_s, onInt_i, onBl_b, onSeq_t, onSeq_l, onSeq_f, onZip_t, onZip_l, onEnum_t, onEnum_l, onT_t, onT_f, onSome_s, fAdd_ii, fAdd_tt, fAdd_ll, fAdd_ss, fSub_ii, fMul_ii, fMul_li, fDiv_ii, fMod_ii, fPow_ii, fNeg_i, fLe_ii, fGt_ii, fGe_ii, fLt_ii, fEq_ii, fEq_ss, fEq_bb, gLen_t, gLen_l, gLen_f, gInt_i, gInt_b, gBool_b, gList_t, gList_l, gList_f, gTuple_t, gTuple_l, gSum_t, gSum_l, fIx_t, fIx_l, fIx_f, fSl_t, fSl_l, fSl_f, fRev_t, fRev_l, wipeD_n, wipeD_c, mPN_e, mPS_e, mSl_e, mDct_e, mChain_e, gMax2_ii, fMulO_li, fMulT_e, iR2_e, fEqN_l, mLst_7, mLst_8, mLst_9, mLst_10, mLst_11, mLst_12, mLst_13, mLst_14, mLst_15, mLst_16, mLst_17, mLst_18, mLst_19, mLst_20, mDcx_e, mMeth_e, mMeth0_e, tyM_str, true_and, mLstO_0, mLstO_1, mLstO_2, mLstO_3, mLstO_4, mTup_4, mLstO_5, mLst_5, mTup_5, mLstO_6, mLst_6, mTup_6, gIsi_non_int, gIsi_non_bool, gIsi_non_tuple, gIsi_non_str, gIsi_non_list, fIs_non, gIsi_bl_int, gIsi_bl_bool, gIsi_bl_tuple, gIsi_bl_str, gIsi_bl_list, fIs_bl, gIsi_int_int, gIsi_int_bool, gIsi_int_tuple, gIsi_int_str, gIsi_int_list, fIs_int, gIsi_str_int, gIsi_str_bool, gIsi_str_tuple, gIsi_str_str, gIsi_str_list, fIs_str, gIsi_tup_int, gIsi_tup_bool, gIsi_tup_tuple, gIsi_tup_str, gIsi_tup_list, fIs_tup, gIsi_lst_int, gIsi_lst_bool, gIsi_lst_tuple, gIsi_lst_str, gIsi_lst_list, fIs_lst, gIsi_frz_int, gIsi_frz_bool, gIsi_frz_tuple, gIsi_frz_str, gIsi_frz_list, fIs_frz, gIsi_dct_int, gIsi_dct_bool, gIsi_dct_tuple, gIsi_dct_str, gIsi_dct_list, fIs_dct]
                  exact bad hq'
                · rw [if_neg c4] at hq'
                  rw [decide_eq_false (show ¬ (4 : Int) < (k : Int) + 1 by omega)]
                  simp only [mBody_e, startD_e, mNext_e, mSeq_e, mExpr_e, mRet_e, mRetN_e, mIfS_e, mBreak_e, mCont_e, mSet_e, mAsg_e, mPar2_e, mPar3_e, mVar_e, slot_0, slot_s, mC_e, mOp_e, mUn_e, mT_e, mAnd_e, mOr_e, mNot_e, mAndV_e, mOrV_e, mNotV_e, mIf_e, mTup_0, mTup_1, mTup_2, mTup_3, mLst_0, mLst_1, mLst_2, mLst_3, mLst_4, mCall_1, mCall_2, mCallF_1, mCallF_2, mCallF_3, mCallF_4, mFor_e, iR1_e, iZ_e, iE_e, iS_e, mLc_e, mLcO_e, mYes_e, gTg_e, bindT_nm, bindT_1, bindT_2, bindT_3, onEnv_s, onInt_i, onBl_b, onSeq_t, onSeq_l, onSeq_f, onZip_t, onZip_l, onEnum_t, onEnum_l, onT_t, onT_f, onSome_s, fAdd_ii, fAdd_tt, fAdd_ll, fAdd_ss, fSub_ii, fMul_ii, fMul_li, fDiv_ii, fMod_ii, fPow_ii, fNeg_i, fLe_ii, fGt_ii, fGe_ii, fLt_ii, fEq_ii, fEq_ss, fEq_bb, gLen_t, gLen_l, gLen_f, gInt_i, gInt_b, gBool_b, gList_t, gList_l, gList_f, gTuple_t, gTuple_l, gSum_t, gSum_l, fIx_t, fIx_l, fIx_f, fSl_t, fSl_l, fSl_f, fRev_t, fRev_l, wipeD_n, wipeD_c, mPN_e, mPS_e, mSl_e, mDct_e, mChain_e, gMax2_ii, fMulO_li, fMulT_e, iR2_e, fEqN_l, mLst_7, mLst_8, mLst_9, mLst_10, mLst_11, mLst_12, mLst_13, mLst_14, mLst_15, mLst_16, mLst_17, mLst_18, mLst_19, mLst_20, mDcx_e, mMeth_e, mMeth0_e, tyM_str, true_and, mLstO_0, mLstO_1, mLstO_2, mLstO_3, mLstO_4, mTup_4, mLstO_5, mLst_5, mTup_5, mLstO_6, mLst_6, mTup_6, gIsi_non_int, gIsi_non_bool, gIsi_non_tuple, gIsi_non_str, gIsi_non_list, fIs_non, gIsi_bl_int, gIsi_bl_bool, gIsi_bl_tuple, gIsi_bl_str, gIsi_bl_list, fIs_bl, gIsi_int_int, gIsi_int_bool, gIsi_int_tuple, gIsi_int_str, gIsi_int_list, fIs_int, gIsi_str_int, gIsi_str_bool, gIsi_str_tuple, gIsi_str_str, gIsi_str_list, fIs_str, gIsi_tup_int, gIsi_tup_bool, gIsi_tup_tuple, gIsi_tup_str, gIsi_tup_list, fIs_tup, gIsi_lst_int, gIsi_lst_bool, gIsi_lst_tuple, gIsi_lst_str, gIsi_lst_list, fIs_lst, gIsi_frz_int, gIsi_frz_bool, gIsi_frz_tuple, gIsi_frz_str, gIsi_frz_list, fIs_frz, gIsi_dct_int, gIsi_dct_bool, gIsi_dct_tuple, gIsi_dct_str, gIsi_dct_list, fIs_dct, app3 r__law_due_1_e, List.map_cons, List.map_nil, List.length_cons, List.length_nil, List.cons_append, List.nil_append, List.set_cons_zero, List.set_cons_succ, List.replicate_zero, List.replicate_succ]
                  refine ⟨tyM_ref get_last, append_ok get_last (by unfold rsV; rw [List.length_map]; omega) ?_⟩
                  rw [set_last]
                  have e4 : rsV acc ++ [DV.tup [.tup (intsV a), .tup (intsV b)]] = rsV (acc ++ [(a, b)]) := by
                    unfold rsV
                    rw [List.map_append]
                    rfl
                  rw [e4, show (k : Int) + 1 + 1 = ((k + 1 : Nat) : Int) + 1 by omega]
                  exact ih (pre ++ [w]) (k + 1) (acc ++ [(a, b)]) _ _ _ _ _ D hD (by rw [List.append_assoc]; exact hpre) (by rw [List.length_append, hk]; rfl) (by omega) (by rw [List.length_append, ha]; rfl) hq'
              · rw [if_neg fun z => ce (Option.some.inj z.2)] at hq
                simp only [decide_eq_false ce, Bool.not_false, mBody_e, startD_e, mNext_e, mSeq_e, mExpr_e, mRet_e, mRetN_e, mIfS_e, mBreak_e, mCont_e, mSet_e, mAsg_e, mPar2_e, mPar3_e, mVar_e, slot_0, slot_s, mC_e, mOp_e, mUn_e, mT_e, mAnd_e, mOr_e, mNot_e, mAndV_e, mOrV_e, mNotV_e, mIf_e, mTup_0, mTup_1, mTup_2, mTup_3, mLst_0, mLst_1, mLst_2, mLst_3, mLst_4, mCall_1, mCall_2, mCallF_1, mCallF_2, mCallF_3, mCallF_4, mFor_e, iR1_e, iZ_e, iE_e, iS_e, mLc_e, mLcO_e, mYes_e, gTg_e, bindT_nm, bindT_1, bindT_2, bindT_3, onEnv_s, onInt_i, onBl_b, onSeq_t, onSeq_l, onSeq_f, onZip_t, onZip_l, onEnum_t, onEnum_l, onT_t, onT_f, onSome_s, fAdd_ii, fAdd_tt, fAdd_ll, fAdd_ss, fSub_ii, fMul_ii, fMul_li, fDiv_ii, fMod_ii, fPow_ii, fNeg_i, fLe_ii, fGt_ii, fGe_ii, fLt_ii, fEq_ii, fEq_ss, fEq_bb, gLen_t, gLen_l, gLen_f, gInt_i, gInt_b, gBool_b, gList_t, gList_l, gList_f, gTuple_t, gTuple_l, gSum_t, gSum_l, fIx_t, fIx_l, fIx_f, fSl_t, fSl_l, fSl_f, fRev_t, fRev_l, wipeD_n, wipeD_c, mPN_e, mPS_e, mSl_e, mDct_e, mChain_e, gMax2_ii, fMulO_li, fMulT_e, iR2_e, fEqN_l, mLst_7, mLst_8, mLst_9, mLst_10, mLst_11, mLst_12, mLst_13, mLst_14, mLst_15, mLst_16, mLst_17, mLst_18, mLst_19, mLst_20, mDcx_e, mMeth_e, mMeth0_e, tyM_str, true_and, mLstO_0, mLstO_1, mLstO_2, mLstO_3, mLstO_4, mTup_4, mLstO_5, mLst_5, mTup_5, mLstO_6, mLst_6, mTup_6, gIsi_non_int, gIsi_non_bool, gIsi_non_tuple, gIsi_non_str, gIsi_non_list, fIs_non, gIsi_bl_int, gIsi_bl_bool, gIsi_bl_tuple, gIsi_bl_str, gIsi_bl_list, fIs_bl, gIsi_int_int, gIsi_int_bool, gIsi_int_tuple, gIsi_int_str, gIsi_int_list, fIs_int, gIsi_str_int, gIsi_str_bool, gIsi_str_tuple, gIsi_str_str, gIsi_str_list, fIs_str, gIsi_tup_int, gIsi_tup_bool, gIsi_tup_tuple, gIsi_tup_str, gIsi_tup_list, fIs_tup, gIsi_lst_int, gIsi_lst_bool, gIsi_lst_tuple, gIsi_lst_str, gIsi_lst_list, fIs_lst, gIsi_frz_int, gIsi_frz_bool, gIsi_frz_tuple, gIsi_frz_str, gIsi_frz_list, fIs_frz, gIsi_dct_int, gIsi_dct_bool, gIsi_dct_tuple, gIsi_dct_str, gIsi_dct_list, fIs_dct]
                exact bad hq
      have e7 : ((ls.length + 1 : Nat) : Int) - 1 = (ls.length : Int) := by omega
      rw [e7, Int.toNat_natCast]
      exact key ls [l] 0 [] _ none none none none _ rfl rfl rfl (by omega) rfl q2
/-! ### texts with something otherwise -/
structure Tx (n : Nat) (x : Str) : Prop where
  len : x.length ≤ n
  sg : Sg x
theorem tl_cutS (z : Str) (lo hi : Option Int) : ∀ c ∈ tl (cutS z lo hi), c ∈ tl z := fun c hc => by
  have h : c ∈ ((tl z).drop (HT.sIx z.length 0 lo)).take (HT.sIx z.length z.length hi - HT.sIx z.length 0 lo) := hc
  exact List.mem_of_mem_drop (List.mem_of_mem_take h)
theorem Tx.cut {n : Nat} {z : Str} (h : Tx n z) (lo hi : Option Int) : Tx n (cutS z lo hi) := ⟨Nat.le_trans (cutS_length z lo hi) h.len, fun c hc => h.sg c (tl_cutS z lo hi c hc)⟩
theorem Tx.app {n m : Nat} {x y : Str} (h : Tx n x) (g : Tx m y) : Tx (n + m) (x ++ y) := ⟨by
    rw [str_len_app]
    have := h.len
    have := g.len
    omega, fun c hc => by
    rw [tl_append] at hc
    rcases List.mem_append.mp hc with hc | hc
    · exact h.sg c hc
    · exact g.sg c hc⟩
theorem Tx.up {n m : Nat} {x : Str} (h : Tx n x) (l : n ≤ m) : Tx m x := ⟨Nat.le_trans h.len l, h.sg⟩
theorem sum_joinL {S : List Nat} : ∀ P : List (List Nat), (P.map List.length).sum ≤ (joinL S P).length
  | [] => by simp [joinL]
  | [p] => by simp [joinL]
  | p :: q :: r => by
    have ih := sum_joinL (S := S) (q :: r)
    simp only [List.map_cons, List.sum_cons, joinL, List.length_append] at ih ⊢
    omega
theorem len_tl (x : Str) : x.length = (tl x).length := by
  show x.cps.size = _
  rw [← Array.length_toList]
theorem sum_split (x y : Str) : ((Txt.split x y).map (·.length)).sum ≤ x.length := by
  have e := PySem.StrLaws.join_split x y
  have h := sum_joinL (S := tl y) ((Txt.split x y).map tl)
  rw [← tl_join, e, ← len_tl] at h
  have e2 : ((Txt.split x y).map (·.length)) = ((Txt.split x y).map tl).map List.length := by
    rw [List.map_map]
    exact List.map_congr_left fun z _ => len_tl z
  rw [e2]
  exact h
theorem sum_part {L : List Str} (k j : Nat) : (((L.take k) ++ (L.drop j)).map (·.length)).sum ≤ 2 * (L.map (·.length)).sum := by
  have h1 : ∀ (L : List Str) (k : Nat), ((L.take k).map (·.length)).sum ≤ (L.map (·.length)).sum := by
    intro L
    induction L with
    | nil => intro k; simp
    | cons a L ih =>
      intro k
      cases k with
      | zero => simp
      | succ k =>
        have := ih k
        simp only [List.take_succ_cons, List.map_cons, List.sum_cons]
        omega
  have h2 : ∀ (L : List Str) (k : Nat), ((L.drop k).map (·.length)).sum ≤ (L.map (·.length)).sum := by
    intro L
    induction L with
    | nil => intro k; simp
    | cons a L ih =>
      intro k
      cases k with
      | zero => simp
      | succ k =>
        have := ih k
        simp only [List.drop_succ_cons, List.map_cons, List.sum_cons]
        omega
  have a := h1 L k
  have b := h2 L j
  rw [List.map_append, List.sum_append]
  omega
theorem Tx.join {n : Nat} {L : List Str} (hs : (L.map (·.length)).sum + L.length ≤ n) (hg : ∀ w ∈ L, Sg w) : Tx n (Txt.join (Str.ofString "\n") L) := by
  have h1 : (Str.ofString "\n").length = 1 := by decide +kernel
  refine ⟨?_, fun c hc => ?_⟩
  · rw [join_eq]
    have h := PySem.StrLaws.join_length_le (Str.ofString "\n") L
    rw [h1] at h
    omega
  · rw [join_eq, tl_join, tl_nl] at hc
    rcases mem_joinL hc with h | ⟨p, hp, h⟩
    · have := List.mem_singleton.mp h
      omega
    · obtain ⟨w, hw, rfl⟩ := List.mem_map.mp hp
      exact hg w hw c h
theorem join_g {L : List Str} {S : Store} {Q : MK DV} (hs : (L.map (·.length)).sum + L.length ≤ 16777216) (q : Q (.str (Txt.join (Str.ofString "\n") L)) S) : gJoin (.str (Str.ofString "\n")) [.lst (strsV L)] S Q := by
  have h1 : (Str.ofString "\n").length = 1 := by decide +kernel
  exact ⟨_, _, L, rfl, rfl, rfl, by rw [h1]; omega, q⟩
def signsL : List Str := [Str.ofString " ", Str.ofString "\n", Str.ofString "0", Str.ofString "1", Str.ofString "3", Str.ofString "4", Str.ofString "9", Str.ofString "=", Str.ofString "-", Str.ofString "g", Str.ofString "s", Str.ofString "+", Str.ofString "."]
def moreL : List Str := [Str.ofString "", Str.ofString "goods 2", Str.ofString "1 = 0", Str.ofString "0 0 = 0 0", Str.ofString "1 0 2 = 0 0 0", Str.ofString " ", Str.ofString "= ="]
theorem allTx {n : Nat} {L : List Str} (h : (L.all fun x => decide (x.length ≤ n) && (tl x).all fun c => decide (c < 128)) = true) : ∀ x ∈ L, Tx n x := fun x hx => by
  have h2 := List.all_eq_true.mp h x hx
  rw [Bool.and_eq_true] at h2
  exact ⟨of_decide_eq_true h2.1, fun c hc => of_decide_eq_true (List.all_eq_true.mp h2.2 c hc)⟩
theorem signs_ok : ∀ x ∈ signsL, Tx 1 x := allTx (by decide +kernel)
theorem more_ok : ∀ x ∈ moreL, Tx 13 x := allTx (by decide +kernel)
theorem strs_map (L : List Str) (k : Nat) : (strsV L).take k = strsV (L.take k) := by
  unfold strsV
  rw [List.map_take]
theorem strs_drop (L : List Str) (k : Nat) : (strsV L).drop k = strsV (L.drop k) := by
  unfold strsV
  rw [List.map_drop]
theorem strs_app (L M : List Str) : strsV L ++ strsV M = strsV (L ++ M) := by
  unfold strsV
  rw [List.map_append]
theorem str_mem {L : List Str} {d : DV} (h : d ∈ strsV L) : ∃ x ∈ L, d = .str x := by
  obtain ⟨x, hx, rfl⟩ := List.mem_map.mp h
  exact ⟨x, hx, rfl⟩
theorem other_ok {t n : Nat} {R S : Store} {x : Str} {Q : MK DV} {E : MX} (D : Dk t R S) (ht : t ≤ 10000000) (hn : n ≤ 100000) (hx : Tx n x) (q : ∀ S' y t', Dk t' R S' → t' ≤ t + 5 → Tx (4 * n + 100) y → Q (.str y) S') : m__law_other [.ref 1, .str x] S Q E := by
  have xl := hx.len
  simp only [app4 m__law_other_e, app3 b__law_other_e, mBody_e, startD_e, mNext_e, mSeq_e, mExpr_e, mRet_e, mRetN_e, mIfS_e, mBreak_e, mCont_e, mSet_e, mAsg_e, mPar2_e, mPar3_e, mVar_e, slot_0, slot_s, mC_e, mOp_e, mUn_e, mT_e, mAnd_e, mOr_e, mNot_e, mAndV_e, mOrV_e, mNotV_e, mIf_e, mTup_0, mTup_1, mTup_2, mTup_3, mLst_0, mLst_1, mLst_2, mLst_3, mLst_4, mCall_1, mCall_2, mCallF_1, mCallF_2, mCallF_3, mCallF_4, mFor_e, iR1_e, iZ_e, iE_e, iS_e, mLc_e, mLcO_e, mYes_e, gTg_e, bindT_nm, bindT_1, bindT_2, bindT_3, onEnv_s, onInt_i, onBl_b, onSeq_t, onSeq_l, onSeq_f, onZip_t, onZip_l, onEnum_t, onEnum_l, onT_t, onT_f, onSome_s, fAdd_ii, fAdd_tt, fAdd_ll, fAdd_ss, fSub_ii, fMul_ii, fMul_li, fDiv_ii, fMod_ii, fPow_ii, fNeg_i, fLe_ii, fGt_ii, fGe_ii, fLt_ii, fEq_ii, fEq_ss, fEq_bb, gLen_t, gLen_l, gLen_f, gInt_i, gInt_b, gBool_b, gList_t, gList_l, gList_f, gTuple_t, gTuple_l, gSum_t, gSum_l, fIx_t, fIx_l, fIx_f, fSl_t, fSl_l, fSl_f, fRev_t, fRev_l, wipeD_n, wipeD_c, mPN_e, mPS_e, mSl_e, mDct_e, mChain_e, gMax2_ii, fMulO_li, fMulT_e, iR2_e, fEqN_l, mLst_7, mLst_8, mLst_9, mLst_10, mLst_11, mLst_12, mLst_13, mLst_14, mLst_15, mLst_16, mLst_17, mLst_18, mLst_19, mLst_20, mDcx_e, mMeth_e, mMeth0_e, tyM_str, true_and, mLstO_0, mLstO_1, mLstO_2, mLstO_3, mLstO_4, mTup_4, mLstO_5, mLst_5, mTup_5, mLstO_6, mLst_6, mTup_6, gIsi_non_int, gIsi_non_bool, gIsi_non_tuple, gIsi_non_str, gIsi_non_list, fIs_non, gIsi_bl_int, gIsi_bl_bool, gIsi_bl_tuple, gIsi_bl_str, gIsi_bl_list, fIs_bl, gIsi_int_int, gIsi_int_bool, gIsi_int_tuple, gIsi_int_str, gIsi_int_list, fIs_int, gIsi_str_int, gIsi_str_bool, gIsi_str_tuple, gIsi_str_str, gIsi_str_list, fIs_str, gIsi_tup_int, gIsi_tup_bool, gIsi_tup_tuple, gIsi_tup_str, gIsi_tup_list, fIs_tup, gIsi_lst_int, gIsi_lst_bool, gIsi_lst_tuple, gIsi_lst_str, gIsi_lst_list, fIs_lst, gIsi_frz_int, gIsi_frz_bool, gIsi_frz_tuple, gIsi_frz_str, gIsi_frz_list, fIs_frz, gIsi_dct_int, gIsi_dct_bool, gIsi_dct_tuple, gIsi_dct_str, gIsi_dct_list, fIs_dct, List.map_cons, List.map_nil, List.length_cons, List.length_nil, List.cons_append, List.nil_append, List.set_cons_zero, List.set_cons_succ, List.replicate_zero, List.replicate_succ, gLen_s]
  refine ⟨by omega, draw_ok D (by omega) (by omega) (by omega) fun S1 a D1 ha0 ha1 => ?_⟩
  obtain ⟨at_, rfl⟩ := Int.eq_ofNat_of_zero_le ha0
  refine draw_ok D1 (by omega) (by omega) (by omega) fun S2 way D2 hw0 hw1 => ?_
  simp only [app3 r__law_other_8_e, mBody_e, startD_e, mNext_e, mSeq_e, mExpr_e, mRet_e, mRetN_e, mIfS_e, mBreak_e, mCont_e, mSet_e, mAsg_e, mPar2_e, mPar3_e, mVar_e, slot_0, slot_s, mC_e, mOp_e, mUn_e, mT_e, mAnd_e, mOr_e, mNot_e, mAndV_e, mOrV_e, mNotV_e, mIf_e, mTup_0, mTup_1, mTup_2, mTup_3, mLst_0, mLst_1, mLst_2, mLst_3, mLst_4, mCall_1, mCall_2, mCallF_1, mCallF_2, mCallF_3, mCallF_4, mFor_e, iR1_e, iZ_e, iE_e, iS_e, mLc_e, mLcO_e, mYes_e, gTg_e, bindT_nm, bindT_1, bindT_2, bindT_3, onEnv_s, onInt_i, onBl_b, onSeq_t, onSeq_l, onSeq_f, onZip_t, onZip_l, onEnum_t, onEnum_l, onT_t, onT_f, onSome_s, fAdd_ii, fAdd_tt, fAdd_ll, fAdd_ss, fSub_ii, fMul_ii, fMul_li, fDiv_ii, fMod_ii, fPow_ii, fNeg_i, fLe_ii, fGt_ii, fGe_ii, fLt_ii, fEq_ii, fEq_ss, fEq_bb, gLen_t, gLen_l, gLen_f, gInt_i, gInt_b, gBool_b, gList_t, gList_l, gList_f, gTuple_t, gTuple_l, gSum_t, gSum_l, fIx_t, fIx_l, fIx_f, fSl_t, fSl_l, fSl_f, fRev_t, fRev_l, wipeD_n, wipeD_c, mPN_e, mPS_e, mSl_e, mDct_e, mChain_e, gMax2_ii, fMulO_li, fMulT_e, iR2_e, fEqN_l, mLst_7, mLst_8, mLst_9, mLst_10, mLst_11, mLst_12, mLst_13, mLst_14, mLst_15, mLst_16, mLst_17, mLst_18, mLst_19, mLst_20, mDcx_e, mMeth_e, mMeth0_e, tyM_str, true_and, mLstO_0, mLstO_1, mLstO_2, mLstO_3, mLstO_4, mTup_4, mLstO_5, mLst_5, mTup_5, mLstO_6, mLst_6, mTup_6, gIsi_non_int, gIsi_non_bool, gIsi_non_tuple, gIsi_non_str, gIsi_non_list, fIs_non, gIsi_bl_int, gIsi_bl_bool, gIsi_bl_tuple, gIsi_bl_str, gIsi_bl_list, fIs_bl, gIsi_int_int, gIsi_int_bool, gIsi_int_tuple, gIsi_int_str, gIsi_int_list, fIs_int, gIsi_str_int, gIsi_str_bool, gIsi_str_tuple, gIsi_str_str, gIsi_str_list, fIs_str, gIsi_tup_int, gIsi_tup_bool, gIsi_tup_tuple, gIsi_tup_str, gIsi_tup_list, fIs_tup, gIsi_lst_int, gIsi_lst_bool, gIsi_lst_tuple, gIsi_lst_str, gIsi_lst_list, fIs_lst, gIsi_frz_int, gIsi_frz_bool, gIsi_frz_tuple, gIsi_frz_str, gIsi_frz_list, fIs_frz, gIsi_dct_int, gIsi_dct_bool, gIsi_dct_tuple, gIsi_dct_str, gIsi_dct_list, fIs_dct, List.map_cons, List.map_nil, List.length_cons, List.length_nil, List.cons_append, List.nil_append, List.set_cons_zero, List.set_cons_succ, List.replicate_zero, List.replicate_succ]
  have el : [DV.str (Str.ofString " "), DV.str (Str.ofString "\n"), DV.str (Str.ofString "0"), DV.str (Str.ofString "1"), DV.str (Str.ofString "3"), DV.str (Str.ofString "4"), DV.str (Str.ofString "9"), DV.str (Str.ofString "="), DV.str (Str.ofString "-"), DV.str (Str.ofString "g"), DV.str (Str.ofString "s"), DV.str (Str.ofString "+"), DV.str (Str.ofString ".")] = strsV signsL := rfl
  rw [el]
  refine one_ok D2 (by decide) (by decide) (by omega) fun S3 d D3 hd => ?_
  obtain ⟨sg, hsg, rfl⟩ := str_mem hd
  have ts := signs_ok sg hsg
  have c1 := hx.cut none (some (at_ : Int))
  have c2 := hx.cut (some (at_ : Int)) none
  have c3 := hx.cut (some ((at_ : Int) + 1)) none
  simp only [app3 r__law_other_7_e, mBody_e, startD_e, mNext_e, mSeq_e, mExpr_e, mRet_e, mRetN_e, mIfS_e, mBreak_e, mCont_e, mSet_e, mAsg_e, mPar2_e, mPar3_e, mVar_e, slot_0, slot_s, mC_e, mOp_e, mUn_e, mT_e, mAnd_e, mOr_e, mNot_e, mAndV_e, mOrV_e, mNotV_e, mIf_e, mTup_0, mTup_1, mTup_2, mTup_3, mLst_0, mLst_1, mLst_2, mLst_3, mLst_4, mCall_1, mCall_2, mCallF_1, mCallF_2, mCallF_3, mCallF_4, mFor_e, iR1_e, iZ_e, iE_e, iS_e, mLc_e, mLcO_e, mYes_e, gTg_e, bindT_nm, bindT_1, bindT_2, bindT_3, onEnv_s, onInt_i, onBl_b, onSeq_t, onSeq_l, onSeq_f, onZip_t, onZip_l, onEnum_t, onEnum_l, onT_t, onT_f, onSome_s, fAdd_ii, fAdd_tt, fAdd_ll, fAdd_ss, fSub_ii, fMul_ii, fMul_li, fDiv_ii, fMod_ii, fPow_ii, fNeg_i, fLe_ii, fGt_ii, fGe_ii, fLt_ii, fEq_ii, fEq_ss, fEq_bb, gLen_t, gLen_l, gLen_f, gInt_i, gInt_b, gBool_b, gList_t, gList_l, gList_f, gTuple_t, gTuple_l, gSum_t, gSum_l, fIx_t, fIx_l, fIx_f, fSl_t, fSl_l, fSl_f, fRev_t, fRev_l, wipeD_n, wipeD_c, mPN_e, mPS_e, mSl_e, mDct_e, mChain_e, gMax2_ii, fMulO_li, fMulT_e, iR2_e, fEqN_l, mLst_7, mLst_8, mLst_9, mLst_10, mLst_11, mLst_12, mLst_13, mLst_14, mLst_15, mLst_16, mLst_17, mLst_18, mLst_19, mLst_20, mDcx_e, mMeth_e, mMeth0_e, tyM_str, true_and, mLstO_0, mLstO_1, mLstO_2, mLstO_3, mLstO_4, mTup_4, mLstO_5, mLst_5, mTup_5, mLstO_6, mLst_6, mTup_6, gIsi_non_int, gIsi_non_bool, gIsi_non_tuple, gIsi_non_str, gIsi_non_list, fIs_non, gIsi_bl_int, gIsi_bl_bool, gIsi_bl_tuple, gIsi_bl_str, gIsi_bl_list, fIs_bl, gIsi_int_int, gIsi_int_bool, gIsi_int_tuple, gIsi_int_str, gIsi_int_list, fIs_int, gIsi_str_int, gIsi_str_bool, gIsi_str_tuple, gIsi_str_str, gIsi_str_list, fIs_str, gIsi_tup_int, gIsi_tup_bool, gIsi_tup_tuple, gIsi_tup_str, gIsi_tup_list, fIs_tup, gIsi_lst_int, gIsi_lst_bool, gIsi_lst_tuple, gIsi_lst_str, gIsi_lst_list, fIs_lst, gIsi_frz_int, gIsi_frz_bool, gIsi_frz_tuple, gIsi_frz_str, gIsi_frz_list, fIs_frz, gIsi_dct_int, gIsi_dct_bool, gIsi_dct_tuple, gIsi_dct_str, gIsi_dct_list, fIs_dct, List.map_cons, List.map_nil, List.length_cons, List.length_nil, List.cons_append, List.nil_append, List.set_cons_zero, List.set_cons_succ, List.replicate_zero, List.replicate_succ]
  by_cases w2 : way < 2
  · simp only [decide_eq_true w2, mBody_e, startD_e, mNext_e, mSeq_e, mExpr_e, mRet_e, mRetN_e, mIfS_e, mBreak_e, mCont_e, mSet_e, mAsg_e, mPar2_e, mPar3_e, mVar_e, slot_0, slot_s, mC_e, mOp_e, mUn_e, mT_e, mAnd_e, mOr_e, mNot_e, mAndV_e, mOrV_e, mNotV_e, mIf_e, mTup_0, mTup_1, mTup_2, mTup_3, mLst_0, mLst_1, mLst_2, mLst_3, mLst_4, mCall_1, mCall_2, mCallF_1, mCallF_2, mCallF_3, mCallF_4, mFor_e, iR1_e, iZ_e, iE_e, iS_e, mLc_e, mLcO_e, mYes_e, gTg_e, bindT_nm, bindT_1, bindT_2, bindT_3, onEnv_s, onInt_i, onBl_b, onSeq_t, onSeq_l, onSeq_f, onZip_t, onZip_l, onEnum_t, onEnum_l, onT_t, onT_f, onSome_s, fAdd_ii, fAdd_tt, fAdd_ll, fAdd_ss, fSub_ii, fMul_ii, fMul_li, fDiv_ii, fMod_ii, fPow_ii, fNeg_i, fLe_ii, fGt_ii, fGe_ii, fLt_ii, fEq_ii, fEq_ss, fEq_bb, gLen_t, gLen_l, gLen_f, gInt_i, gInt_b, gBool_b, gList_t, gList_l, gList_f, gTuple_t, gTuple_l, gSum_t, gSum_l, fIx_t, fIx_l, fIx_f, fSl_t, fSl_l, fSl_f, fRev_t, fRev_l, wipeD_n, wipeD_c, mPN_e, mPS_e, mSl_e, mDct_e, mChain_e, gMax2_ii, fMulO_li, fMulT_e, iR2_e, fEqN_l, mLst_7, mLst_8, mLst_9, mLst_10, mLst_11, mLst_12, mLst_13, mLst_14, mLst_15, mLst_16, mLst_17, mLst_18, mLst_19, mLst_20, mDcx_e, mMeth_e, mMeth0_e, tyM_str, true_and, mLstO_0, mLstO_1, mLstO_2, mLstO_3, mLstO_4, mTup_4, mLstO_5, mLst_5, mTup_5, mLstO_6, mLst_6, mTup_6, gIsi_non_int, gIsi_non_bool, gIsi_non_tuple, gIsi_non_str, gIsi_non_list, fIs_non, gIsi_bl_int, gIsi_bl_bool, gIsi_bl_tuple, gIsi_bl_str, gIsi_bl_list, fIs_bl, gIsi_int_int, gIsi_int_bool, gIsi_int_tuple, gIsi_int_str, gIsi_int_list, fIs_int, gIsi_str_int, gIsi_str_bool, gIsi_str_tuple, gIsi_str_str, gIsi_str_list, fIs_str, gIsi_tup_int, gIsi_tup_bool, gIsi_tup_tuple, gIsi_tup_str, gIsi_tup_list, fIs_tup, gIsi_lst_int, gIsi_lst_bool, gIsi_lst_tuple, gIsi_lst_str, gIsi_lst_list, fIs_lst, gIsi_frz_int, gIsi_frz_bool, gIsi_frz_tuple, gIsi_frz_str, gIsi_frz_list, fIs_frz, gIsi_dct_int, gIsi_dct_bool, gIsi_dct_tuple, gIsi_dct_str, gIsi_dct_list, fIs_dct, List.map_cons, List.map_nil, List.length_cons, List.length_nil, List.cons_append, List.nil_append, List.set_cons_zero, List.set_cons_succ, List.replicate_zero, List.replicate_succ]
    refine ⟨x, rfl, by omega, ?_⟩
    have l1 := c1.len
    have l2 := c2.len
    have l3 := ts.len
    simp only [mBody_e, startD_e, mNext_e, mSeq_e, mExpr_e, mRet_e, mRetN_e, mIfS_e, mBreak_e, mCont_e, mSet_e, mAsg_e, mPar2_e, mPar3_e, mVar_e, slot_0, slot_s, mC_e, mOp_e, mUn_e, mT_e, mAnd_e, mOr_e, mNot_e, mAndV_e, mOrV_e, mNotV_e, mIf_e, mTup_0, mTup_1, mTup_2, mTup_3, mLst_0, mLst_1, mLst_2, mLst_3, mLst_4, mCall_1, mCall_2, mCallF_1, mCallF_2, mCallF_3, mCallF_4, mFor_e, iR1_e, iZ_e, iE_e, iS_e, mLc_e, mLcO_e, mYes_e, gTg_e, bindT_nm, bindT_1, bindT_2, bindT_3, onEnv_s, onInt_i, onBl_b, onSeq_t, onSeq_l, onSeq_f, onZip_t, onZip_l, onEnum_t, onEnum_l, onT_t, onT_f, onSome_s, fAdd_ii, fAdd_tt, fAdd_ll, fAdd_ss, fSub_ii, fMul_ii, fMul_li, fDiv_ii, fMod_ii, fPow_ii, fNeg_i, fLe_ii, fGt_ii, fGe_ii, fLt_ii, fEq_ii, fEq_ss, fEq_bb, gLen_t, gLen_l, gLen_f, gInt_i, gInt_b, gBool_b, gList_t, gList_l, gList_f, gTuple_t, gTuple_l, gSum_t, gSum_l, fIx_t, fIx_l, fIx_f, fSl_t, fSl_l, fSl_f, fRev_t, fRev_l, wipeD_n, wipeD_c, mPN_e, mPS_e, mSl_e, mDct_e, mChain_e, gMax2_ii, fMulO_li, fMulT_e, iR2_e, fEqN_l, mLst_7, mLst_8, mLst_9, mLst_10, mLst_11, mLst_12, mLst_13, mLst_14, mLst_15, mLst_16, mLst_17, mLst_18, mLst_19, mLst_20, mDcx_e, mMeth_e, mMeth0_e, tyM_str, true_and, mLstO_0, mLstO_1, mLstO_2, mLstO_3, mLstO_4, mTup_4, mLstO_5, mLst_5, mTup_5, mLstO_6, mLst_6, mTup_6, gIsi_non_int, gIsi_non_bool, gIsi_non_tuple, gIsi_non_str, gIsi_non_list, fIs_non, gIsi_bl_int, gIsi_bl_bool, gIsi_bl_tuple, gIsi_bl_str, gIsi_bl_list, fIs_bl, gIsi_int_int, gIsi_int_bool, gIsi_int_tuple, gIsi_int_str, gIsi_int_list, fIs_int, gIsi_str_int, gIsi_str_bool, gIsi_str_tuple, gIsi_str_str, gIsi_str_list, fIs_str, gIsi_tup_int, gIsi_tup_bool, gIsi_tup_tuple, gIsi_tup_str, gIsi_tup_list, fIs_tup, gIsi_lst_int, gIsi_lst_bool, gIsi_lst_tuple, gIsi_lst_str, gIsi_lst_list, fIs_lst, gIsi_frz_int, gIsi_frz_bool, gIsi_frz_tuple, gIsi_frz_str, gIsi_frz_list, fIs_frz, gIsi_dct_int, gIsi_dct_bool, gIsi_dct_tuple, gIsi_dct_str, gIsi_dct_list, fIs_dct]
    refine ⟨by omega, x, rfl, by omega, ?_⟩
    refine ⟨by rw [str_len_app]; omega, ?_⟩
    exact q S3 _ _ D3 (by omega) (((c1.app ts).app c2).up (by omega))
  · simp only [decide_eq_false w2, mBody_e, startD_e, mNext_e, mSeq_e, mExpr_e, mRet_e, mRetN_e, mIfS_e, mBreak_e, mCont_e, mSet_e, mAsg_e, mPar2_e, mPar3_e, mVar_e, slot_0, slot_s, mC_e, mOp_e, mUn_e, mT_e, mAnd_e, mOr_e, mNot_e, mAndV_e, mOrV_e, mNotV_e, mIf_e, mTup_0, mTup_1, mTup_2, mTup_3, mLst_0, mLst_1, mLst_2, mLst_3, mLst_4, mCall_1, mCall_2, mCallF_1, mCallF_2, mCallF_3, mCallF_4, mFor_e, iR1_e, iZ_e, iE_e, iS_e, mLc_e, mLcO_e, mYes_e, gTg_e, bindT_nm, bindT_1, bindT_2, bindT_3, onEnv_s, onInt_i, onBl_b, onSeq_t, onSeq_l, onSeq_f, onZip_t, onZip_l, onEnum_t, onEnum_l, onT_t, onT_f, onSome_s, fAdd_ii, fAdd_tt, fAdd_ll, fAdd_ss, fSub_ii, fMul_ii, fMul_li, fDiv_ii, fMod_ii, fPow_ii, fNeg_i, fLe_ii, fGt_ii, fGe_ii, fLt_ii, fEq_ii, fEq_ss, fEq_bb, gLen_t, gLen_l, gLen_f, gInt_i, gInt_b, gBool_b, gList_t, gList_l, gList_f, gTuple_t, gTuple_l, gSum_t, gSum_l, fIx_t, fIx_l, fIx_f, fSl_t, fSl_l, fSl_f, fRev_t, fRev_l, wipeD_n, wipeD_c, mPN_e, mPS_e, mSl_e, mDct_e, mChain_e, gMax2_ii, fMulO_li, fMulT_e, iR2_e, fEqN_l, mLst_7, mLst_8, mLst_9, mLst_10, mLst_11, mLst_12, mLst_13, mLst_14, mLst_15, mLst_16, mLst_17, mLst_18, mLst_19, mLst_20, mDcx_e, mMeth_e, mMeth0_e, tyM_str, true_and, mLstO_0, mLstO_1, mLstO_2, mLstO_3, mLstO_4, mTup_4, mLstO_5, mLst_5, mTup_5, mLstO_6, mLst_6, mTup_6, gIsi_non_int, gIsi_non_bool, gIsi_non_tuple, gIsi_non_str, gIsi_non_list, fIs_non, gIsi_bl_int, gIsi_bl_bool, gIsi_bl_tuple, gIsi_bl_str, gIsi_bl_list, fIs_bl, gIsi_int_int, gIsi_int_bool, gIsi_int_tuple, gIsi_int_str, gIsi_int_list, fIs_int, gIsi_str_int, gIsi_str_bool, gIsi_str_tuple, gIsi_str_str, gIsi_str_list, fIs_str, gIsi_tup_int, gIsi_tup_bool, gIsi_tup_tuple, gIsi_tup_str, gIsi_tup_list, fIs_tup, gIsi_lst_int, gIsi_lst_bool, gIsi_lst_tuple, gIsi_lst_str, gIsi_lst_list, fIs_lst, gIsi_frz_int, gIsi_frz_bool, gIsi_frz_tuple, gIsi_frz_str, gIsi_frz_list, fIs_frz, gIsi_dct_int, gIsi_dct_bool, gIsi_dct_tuple, gIsi_dct_str, gIsi_dct_list, fIs_dct, app3 r__law_other_6_e, List.map_cons, List.map_nil, List.length_cons, List.length_nil, List.cons_append, List.nil_append, List.set_cons_zero, List.set_cons_succ, List.replicate_zero, List.replicate_succ]
    by_cases w4 : way < 4
    · simp only [decide_eq_true w4, mBody_e, startD_e, mNext_e, mSeq_e, mExpr_e, mRet_e, mRetN_e, mIfS_e, mBreak_e, mCont_e, mSet_e, mAsg_e, mPar2_e, mPar3_e, mVar_e, slot_0, slot_s, mC_e, mOp_e, mUn_e, mT_e, mAnd_e, mOr_e, mNot_e, mAndV_e, mOrV_e, mNotV_e, mIf_e, mTup_0, mTup_1, mTup_2, mTup_3, mLst_0, mLst_1, mLst_2, mLst_3, mLst_4, mCall_1, mCall_2, mCallF_1, mCallF_2, mCallF_3, mCallF_4, mFor_e, iR1_e, iZ_e, iE_e, iS_e, mLc_e, mLcO_e, mYes_e, gTg_e, bindT_nm, bindT_1, bindT_2, bindT_3, onEnv_s, onInt_i, onBl_b, onSeq_t, onSeq_l, onSeq_f, onZip_t, onZip_l, onEnum_t, onEnum_l, onT_t, onT_f, onSome_s, fAdd_ii, fAdd_tt, fAdd_ll, fAdd_ss, fSub_ii, fMul_ii, fMul_li, fDiv_ii, fMod_ii, fPow_ii, fNeg_i, fLe_ii, fGt_ii, fGe_ii, fLt_ii, fEq_ii, fEq_ss, fEq_bb, gLen_t, gLen_l, gLen_f, gInt_i, gInt_b, gBool_b, gList_t, gList_l, gList_f, gTuple_t, gTuple_l, gSum_t, gSum_l, fIx_t, fIx_l, fIx_f, fSl_t, fSl_l, fSl_f, fRev_t, fRev_l, wipeD_n, wipeD_c, mPN_e, mPS_e, mSl_e, mDct_e, mChain_e, gMax2_ii, fMulO_li, fMulT_e, iR2_e, fEqN_l, mLst_7, mLst_8, mLst_9, mLst_10, mLst_11, mLst_12, mLst_13, mLst_14, mLst_15, mLst_16, mLst_17, mLst_18, mLst_19, mLst_20, mDcx_e, mMeth_e, mMeth0_e, tyM_str, true_and, mLstO_0, mLstO_1, mLstO_2, mLstO_3, mLstO_4, mTup_4, mLstO_5, mLst_5, mTup_5, mLstO_6, mLst_6, mTup_6, gIsi_non_int, gIsi_non_bool, gIsi_non_tuple, gIsi_non_str, gIsi_non_list, fIs_non, gIsi_bl_int, gIsi_bl_bool, gIsi_bl_tuple, gIsi_bl_str, gIsi_bl_list, fIs_bl, gIsi_int_int, gIsi_int_bool, gIsi_int_tuple, gIsi_int_str, gIsi_int_list, fIs_int, gIsi_str_int, gIsi_str_bool, gIsi_str_tuple, gIsi_str_str, gIsi_str_list, fIs_str, gIsi_tup_int, gIsi_tup_bool, gIsi_tup_tuple, gIsi_tup_str, gIsi_tup_list, fIs_tup, gIsi_lst_int, gIsi_lst_bool, gIsi_lst_tuple, gIsi_lst_str, gIsi_lst_list, fIs_lst, gIsi_frz_int, gIsi_frz_bool, gIsi_frz_tuple, gIsi_frz_str, gIsi_frz_list, fIs_frz, gIsi_dct_int, gIsi_dct_bool, gIsi_dct_tuple, gIsi_dct_str, gIsi_dct_list, fIs_dct, List.map_cons, List.map_nil, List.length_cons, List.length_nil, List.cons_append, List.nil_append, List.set_cons_zero, List.set_cons_succ, List.replicate_zero, List.replicate_succ]
      have l1 := c1.len
      have l2 := c3.len
      have l3 := ts.len
      by_cases e2 : way = 2
      · simp only [decide_eq_true e2, mBody_e, startD_e, mNext_e, mSeq_e, mExpr_e, mRet_e, mRetN_e, mIfS_e, mBreak_e, mCont_e, mSet_e, mAsg_e, mPar2_e, mPar3_e, mVar_e, slot_0, slot_s, mC_e, mOp_e, mUn_e, mT_e, mAnd_e, mOr_e, mNot_e, mAndV_e, mOrV_e, mNotV_e, mIf_e, mTup_0, mTup_1, mTup_2, mTup_3, mLst_0, mLst_1, mLst_2, mLst_3, mLst_4, mCall_1, mCall_2, mCallF_1, mCallF_2, mCallF_3, mCallF_4, mFor_e, iR1_e, iZ_e, iE_e, iS_e, mLc_e, mLcO_e, mYes_e, gTg_e, bindT_nm, bindT_1, bindT_2, bindT_3, onEnv_s, onInt_i, onBl_b, onSeq_t, onSeq_l, onSeq_f, onZip_t, onZip_l, onEnum_t, onEnum_l, onT_t, onT_f, onSome_s, fAdd_ii, fAdd_tt, fAdd_ll, fAdd_ss, fSub_ii, fMul_ii, fMul_li, fDiv_ii, fMod_ii, fPow_ii, fNeg_i, fLe_ii, fGt_ii, fGe_ii, fLt_ii, fEq_ii, fEq_ss, fEq_bb, gLen_t, gLen_l, gLen_f, gInt_i, gInt_b, gBool_b, gList_t, gList_l, gList_f, gTuple_t, gTuple_l, gSum_t, gSum_l, fIx_t, fIx_l, fIx_f, fSl_t, fSl_l, fSl_f, fRev_t, fRev_l, wipeD_n, wipeD_c, mPN_e, mPS_e, mSl_e, mDct_e, mChain_e, gMax2_ii, fMulO_li, fMulT_e, iR2_e, fEqN_l, mLst_7, mLst_8, mLst_9, mLst_10, mLst_11, mLst_12, mLst_13, mLst_14, mLst_15, mLst_16, mLst_17, mLst_18, mLst_19, mLst_20, mDcx_e, mMeth_e, mMeth0_e, tyM_str, true_and, mLstO_0, mLstO_1, mLstO_2, mLstO_3, mLstO_4, mTup_4, mLstO_5, mLst_5, mTup_5, mLstO_6, mLst_6, mTup_6, gIsi_non_int, gIsi_non_bool, gIsi_non_tuple, gIsi_non_str, gIsi_non_list, fIs_non, gIsi_bl_int, gIsi_bl_bool, gIsi_bl_tuple, gIsi_bl_str, gIsi_bl_list, fIs_bl, gIsi_int_int, gIsi_int_bool, gIsi_int_tuple, gIsi_int_str, gIsi_int_list, fIs_int, gIsi_str_int, gIsi_str_bool, gIsi_str_tuple, gIsi_str_str, gIsi_str_list, fIs_str, gIsi_tup_int, gIsi_tup_bool, gIsi_tup_tuple, gIsi_tup_str, gIsi_tup_list, fIs_tup, gIsi_lst_int, gIsi_lst_bool, gIsi_lst_tuple, gIsi_lst_str, gIsi_lst_list, fIs_lst, gIsi_frz_int, gIsi_frz_bool, gIsi_frz_tuple, gIsi_frz_str, gIsi_frz_list, fIs_frz, gIsi_dct_int, gIsi_dct_bool, gIsi_dct_tuple, gIsi_dct_str, gIsi_dct_list, fIs_dct, List.map_cons, List.map_nil, List.length_cons, List.length_nil, List.cons_append, List.nil_append, List.set_cons_zero, List.set_cons_succ, List.replicate_zero, List.replicate_succ]
        refine ⟨x, rfl, by omega, x, rfl, by omega, ?_⟩
        simp only [mBody_e, startD_e, mNext_e, mSeq_e, mExpr_e, mRet_e, mRetN_e, mIfS_e, mBreak_e, mCont_e, mSet_e, mAsg_e, mPar2_e, mPar3_e, mVar_e, slot_0, slot_s, mC_e, mOp_e, mUn_e, mT_e, mAnd_e, mOr_e, mNot_e, mAndV_e, mOrV_e, mNotV_e, mIf_e, mTup_0, mTup_1, mTup_2, mTup_3, mLst_0, mLst_1, mLst_2, mLst_3, mLst_4, mCall_1, mCall_2, mCallF_1, mCallF_2, mCallF_3, mCallF_4, mFor_e, iR1_e, iZ_e, iE_e, iS_e, mLc_e, mLcO_e, mYes_e, gTg_e, bindT_nm, bindT_1, bindT_2, bindT_3, onEnv_s, onInt_i, onBl_b, onSeq_t, onSeq_l, onSeq_f, onZip_t, onZip_l, onEnum_t, onEnum_l, onT_t, onT_f, onSome_s, fAdd_ii, fAdd_tt, fAdd_ll, fAdd_ss, fSub_ii, fMul_ii, fMul_li, fDiv_ii, fMod_ii, fPow_ii, fNeg_i, fLe_ii, fGt_ii, fGe_ii, fLt_ii, fEq_ii, fEq_ss, fEq_bb, gLen_t, gLen_l, gLen_f, gInt_i, gInt_b, gBool_b, gList_t, gList_l, gList_f, gTuple_t, gTuple_l, gSum_t, gSum_l, fIx_t, fIx_l, fIx_f, fSl_t, fSl_l, fSl_f, fRev_t, fRev_l, wipeD_n, wipeD_c, mPN_e, mPS_e, mSl_e, mDct_e, mChain_e, gMax2_ii, fMulO_li, fMulT_e, iR2_e, fEqN_l, mLst_7, mLst_8, mLst_9, mLst_10, mLst_11, mLst_12, mLst_13, mLst_14, mLst_15, mLst_16, mLst_17, mLst_18, mLst_19, mLst_20, mDcx_e, mMeth_e, mMeth0_e, tyM_str, true_and, mLstO_0, mLstO_1, mLstO_2, mLstO_3, mLstO_4, mTup_4, mLstO_5, mLst_5, mTup_5, mLstO_6, mLst_6, mTup_6, gIsi_non_int, gIsi_non_bool, gIsi_non_tuple, gIsi_non_str, gIsi_non_list, fIs_non, gIsi_bl_int, gIsi_bl_bool, gIsi_bl_tuple, gIsi_bl_str, gIsi_bl_list, fIs_bl, gIsi_int_int, gIsi_int_bool, gIsi_int_tuple, gIsi_int_str, gIsi_int_list, fIs_int, gIsi_str_int, gIsi_str_bool, gIsi_str_tuple, gIsi_str_str, gIsi_str_list, fIs_str, gIsi_tup_int, gIsi_tup_bool, gIsi_tup_tuple, gIsi_tup_str, gIsi_tup_list, fIs_tup, gIsi_lst_int, gIsi_lst_bool, gIsi_lst_tuple, gIsi_lst_str, gIsi_lst_list, fIs_lst, gIsi_frz_int, gIsi_frz_bool, gIsi_frz_tuple, gIsi_frz_str, gIsi_frz_list, fIs_frz, gIsi_dct_int, gIsi_dct_bool, gIsi_dct_tuple, gIsi_dct_str, gIsi_dct_list, fIs_dct]
        refine ⟨by omega, ?_⟩
        exact q S3 _ _ D3 (by omega) ((c1.app c3).up (by omega))
      · simp only [decide_eq_false e2, mBody_e, startD_e, mNext_e, mSeq_e, mExpr_e, mRet_e, mRetN_e, mIfS_e, mBreak_e, mCont_e, mSet_e, mAsg_e, mPar2_e, mPar3_e, mVar_e, slot_0, slot_s, mC_e, mOp_e, mUn_e, mT_e, mAnd_e, mOr_e, mNot_e, mAndV_e, mOrV_e, mNotV_e, mIf_e, mTup_0, mTup_1, mTup_2, mTup_3, mLst_0, mLst_1, mLst_2, mLst_3, mLst_4, mCall_1, mCall_2, mCallF_1, mCallF_2, mCallF_3, mCallF_4, mFor_e, iR1_e, iZ_e, iE_e, iS_e, mLc_e, mLcO_e, mYes_e, gTg_e, bindT_nm, bindT_1, bindT_2, bindT_3, onEnv_s, onInt_i, onBl_b, onSeq_t, onSeq_l, onSeq_f, onZip_t, onZip_l, onEnum_t, onEnum_l, onT_t, onT_f, onSome_s, fAdd_ii, fAdd_tt, fAdd_ll, fAdd_ss, fSub_ii, fMul_ii, fMul_li, fDiv_ii, fMod_ii, fPow_ii, fNeg_i, fLe_ii, fGt_ii, fGe_ii, fLt_ii, fEq_ii, fEq_ss, fEq_bb, gLen_t, gLen_l, gLen_f, gInt_i, gInt_b, gBool_b, gList_t, gList_l, gList_f, gTuple_t, gTuple_l, gSum_t, gSum_l, fIx_t, fIx_l, fIx_f, fSl_t, fSl_l, fSl_f, fRev_t, fRev_l, wipeD_n, wipeD_c, mPN_e, mPS_e, mSl_e, mDct_e, mChain_e, gMax2_ii, fMulO_li, fMulT_e, iR2_e, fEqN_l, mLst_7, mLst_8, mLst_9, mLst_10, mLst_11, mLst_12, mLst_13, mLst_14, mLst_15, mLst_16, mLst_17, mLst_18, mLst_19, mLst_20, mDcx_e, mMeth_e, mMeth0_e, tyM_str, true_and, mLstO_0, mLstO_1, mLstO_2, mLstO_3, mLstO_4, mTup_4, mLstO_5, mLst_5, mTup_5, mLstO_6, mLst_6, mTup_6, gIsi_non_int, gIsi_non_bool, gIsi_non_tuple, gIsi_non_str, gIsi_non_list, fIs_non, gIsi_bl_int, gIsi_bl_bool, gIsi_bl_tuple, gIsi_bl_str, gIsi_bl_list, fIs_bl, gIsi_int_int, gIsi_int_bool, gIsi_int_tuple, gIsi_int_str, gIsi_int_list, fIs_int, gIsi_str_int, gIsi_str_bool, gIsi_str_tuple, gIsi_str_str, gIsi_str_list, fIs_str, gIsi_tup_int, gIsi_tup_bool, gIsi_tup_tuple, gIsi_tup_str, gIsi_tup_list, fIs_tup, gIsi_lst_int, gIsi_lst_bool, gIsi_lst_tuple, gIsi_lst_str, gIsi_lst_list, fIs_lst, gIsi_frz_int, gIsi_frz_bool, gIsi_frz_tuple, gIsi_frz_str, gIsi_frz_list, fIs_frz, gIsi_dct_int, gIsi_dct_bool, gIsi_dct_tuple, gIsi_dct_str, gIsi_dct_list, fIs_dct, List.map_cons, List.map_nil, List.length_cons, List.length_nil, List.cons_append, List.nil_append, List.set_cons_zero, List.set_cons_succ, List.replicate_zero, List.replicate_succ]
        refine ⟨x, rfl, by omega, ?_⟩
        simp only [mBody_e, startD_e, mNext_e, mSeq_e, mExpr_e, mRet_e, mRetN_e, mIfS_e, mBreak_e, mCont_e, mSet_e, mAsg_e, mPar2_e, mPar3_e, mVar_e, slot_0, slot_s, mC_e, mOp_e, mUn_e, mT_e, mAnd_e, mOr_e, mNot_e, mAndV_e, mOrV_e, mNotV_e, mIf_e, mTup_0, mTup_1, mTup_2, mTup_3, mLst_0, mLst_1, mLst_2, mLst_3, mLst_4, mCall_1, mCall_2, mCallF_1, mCallF_2, mCallF_3, mCallF_4, mFor_e, iR1_e, iZ_e, iE_e, iS_e, mLc_e, mLcO_e, mYes_e, gTg_e, bindT_nm, bindT_1, bindT_2, bindT_3, onEnv_s, onInt_i, onBl_b, onSeq_t, onSeq_l, onSeq_f, onZip_t, onZip_l, onEnum_t, onEnum_l, onT_t, onT_f, onSome_s, fAdd_ii, fAdd_tt, fAdd_ll, fAdd_ss, fSub_ii, fMul_ii, fMul_li, fDiv_ii, fMod_ii, fPow_ii, fNeg_i, fLe_ii, fGt_ii, fGe_ii, fLt_ii, fEq_ii, fEq_ss, fEq_bb, gLen_t, gLen_l, gLen_f, gInt_i, gInt_b, gBool_b, gList_t, gList_l, gList_f, gTuple_t, gTuple_l, gSum_t, gSum_l, fIx_t, fIx_l, fIx_f, fSl_t, fSl_l, fSl_f, fRev_t, fRev_l, wipeD_n, wipeD_c, mPN_e, mPS_e, mSl_e, mDct_e, mChain_e, gMax2_ii, fMulO_li, fMulT_e, iR2_e, fEqN_l, mLst_7, mLst_8, mLst_9, mLst_10, mLst_11, mLst_12, mLst_13, mLst_14, mLst_15, mLst_16, mLst_17, mLst_18, mLst_19, mLst_20, mDcx_e, mMeth_e, mMeth0_e, tyM_str, true_and, mLstO_0, mLstO_1, mLstO_2, mLstO_3, mLstO_4, mTup_4, mLstO_5, mLst_5, mTup_5, mLstO_6, mLst_6, mTup_6, gIsi_non_int, gIsi_non_bool, gIsi_non_tuple, gIsi_non_str, gIsi_non_list, fIs_non, gIsi_bl_int, gIsi_bl_bool, gIsi_bl_tuple, gIsi_bl_str, gIsi_bl_list, fIs_bl, gIsi_int_int, gIsi_int_bool, gIsi_int_tuple, gIsi_int_str, gIsi_int_list, fIs_int, gIsi_str_int, gIsi_str_bool, gIsi_str_tuple, gIsi_str_str, gIsi_str_list, fIs_str, gIsi_tup_int, gIsi_tup_bool, gIsi_tup_tuple, gIsi_tup_str, gIsi_tup_list, fIs_tup, gIsi_lst_int, gIsi_lst_bool, gIsi_lst_tuple, gIsi_lst_str, gIsi_lst_list, fIs_lst, gIsi_frz_int, gIsi_frz_bool, gIsi_frz_tuple, gIsi_frz_str, gIsi_frz_list, fIs_frz, gIsi_dct_int, gIsi_dct_bool, gIsi_dct_tuple, gIsi_dct_str, gIsi_dct_list, fIs_dct]
        refine ⟨by omega, x, rfl, by omega, ?_⟩
        refine ⟨by rw [str_len_app]; omega, ?_⟩
        exact q S3 _ _ D3 (by omega) (((c1.app ts).app c3).up (by omega))
    · simp only [decide_eq_false w4, mBody_e, startD_e, mNext_e, mSeq_e, mExpr_e, mRet_e, mRetN_e, mIfS_e, mBreak_e, mCont_e, mSet_e, mAsg_e, mPar2_e, mPar3_e, mVar_e, slot_0, slot_s, mC_e, mOp_e, mUn_e, mT_e, mAnd_e, mOr_e, mNot_e, mAndV_e, mOrV_e, mNotV_e, mIf_e, mTup_0, mTup_1, mTup_2, mTup_3, mLst_0, mLst_1, mLst_2, mLst_3, mLst_4, mCall_1, mCall_2, mCallF_1, mCallF_2, mCallF_3, mCallF_4, mFor_e, iR1_e, iZ_e, iE_e, iS_e, mLc_e, mLcO_e, mYes_e, gTg_e, bindT_nm, bindT_1, bindT_2, bindT_3, onEnv_s, onInt_i, onBl_b, onSeq_t, onSeq_l, onSeq_f, onZip_t, onZip_l, onEnum_t, onEnum_l, onT_t, onT_f, onSome_s, fAdd_ii, fAdd_tt, fAdd_ll, fAdd_ss, fSub_ii, fMul_ii, fMul_li, fDiv_ii, fMod_ii, fPow_ii, fNeg_i, fLe_ii, fGt_ii, fGe_ii, fLt_ii, fEq_ii, fEq_ss, fEq_bb, gLen_t, gLen_l, gLen_f, gInt_i, gInt_b, gBool_b, gList_t, gList_l, gList_f, gTuple_t, gTuple_l, gSum_t, gSum_l, fIx_t, fIx_l, fIx_f, fSl_t, fSl_l, fSl_f, fRev_t, fRev_l, wipeD_n, wipeD_c, mPN_e, mPS_e, mSl_e, mDct_e, mChain_e, gMax2_ii, fMulO_li, fMulT_e, iR2_e, fEqN_l, mLst_7, mLst_8, mLst_9, mLst_10, mLst_11, mLst_12, mLst_13, mLst_14, mLst_15, mLst_16, mLst_17, mLst_18, mLst_19, mLst_20, mDcx_e, mMeth_e, mMeth0_e, tyM_str, true_and, mLstO_0, mLstO_1, mLstO_2, mLstO_3, mLstO_4, mTup_4, mLstO_5, mLst_5, mTup_5, mLstO_6, mLst_6, mTup_6, gIsi_non_int, gIsi_non_bool, gIsi_non_tuple, gIsi_non_str, gIsi_non_list, fIs_non, gIsi_bl_int, gIsi_bl_bool, gIsi_bl_tuple, gIsi_bl_str, gIsi_bl_list, fIs_bl, gIsi_int_int, gIsi_int_bool, gIsi_int_tuple, gIsi_int_str, gIsi_int_list, fIs_int, gIsi_str_int, gIsi_str_bool, gIsi_str_tuple, gIsi_str_str, gIsi_str_list, fIs_str, gIsi_tup_int, gIsi_tup_bool, gIsi_tup_tuple, gIsi_tup_str, gIsi_tup_list, fIs_tup, gIsi_lst_int, gIsi_lst_bool, gIsi_lst_tuple, gIsi_lst_str, gIsi_lst_list, fIs_lst, gIsi_frz_int, gIsi_frz_bool, gIsi_frz_tuple, gIsi_frz_str, gIsi_frz_list, fIs_frz, gIsi_dct_int, gIsi_dct_bool, gIsi_dct_tuple, gIsi_dct_str, gIsi_dct_list, fIs_dct, app3 r__law_other_5_e, List.map_cons, List.map_nil, List.length_cons, List.length_nil, List.cons_append, List.nil_append, List.set_cons_zero, List.set_cons_succ, List.replicate_zero, List.replicate_succ]
      refine ⟨_, _, rfl, rfl, by decide +kernel, by omega, ?_⟩
      have ss := sum_split x (Str.ofString "\n")
      have sc := PyProof.Rows.split_le x (Str.ofString "\n")
      have sgl := split_sg (y := Str.ofString "\n") hx.sg
      have sn := split_ne x (Str.ofString "\n")
      have sl : ∀ w ∈ Txt.split x (Str.ofString "\n"), w.length ≤ n := fun w hw => by
        have := len_split hw
        omega
      generalize Txt.split x (Str.ofString "\n") = L at ss sc sgl sn sl ⊢
      have hL : 0 < L.length := List.length_pos_iff.mpr sn
      simp only [app3 r__law_other_4_e, mBody_e, startD_e, mNext_e, mSeq_e, mExpr_e, mRet_e, mRetN_e, mIfS_e, mBreak_e, mCont_e, mSet_e, mAsg_e, mPar2_e, mPar3_e, mVar_e, slot_0, slot_s, mC_e, mOp_e, mUn_e, mT_e, mAnd_e, mOr_e, mNot_e, mAndV_e, mOrV_e, mNotV_e, mIf_e, mTup_0, mTup_1, mTup_2, mTup_3, mLst_0, mLst_1, mLst_2, mLst_3, mLst_4, mCall_1, mCall_2, mCallF_1, mCallF_2, mCallF_3, mCallF_4, mFor_e, iR1_e, iZ_e, iE_e, iS_e, mLc_e, mLcO_e, mYes_e, gTg_e, bindT_nm, bindT_1, bindT_2, bindT_3, onEnv_s, onInt_i, onBl_b, onSeq_t, onSeq_l, onSeq_f, onZip_t, onZip_l, onEnum_t, onEnum_l, onT_t, onT_f, onSome_s, fAdd_ii, fAdd_tt, fAdd_ll, fAdd_ss, fSub_ii, fMul_ii, fMul_li, fDiv_ii, fMod_ii, fPow_ii, fNeg_i, fLe_ii, fGt_ii, fGe_ii, fLt_ii, fEq_ii, fEq_ss, fEq_bb, gLen_t, gLen_l, gLen_f, gInt_i, gInt_b, gBool_b, gList_t, gList_l, gList_f, gTuple_t, gTuple_l, gSum_t, gSum_l, fIx_t, fIx_l, fIx_f, fSl_t, fSl_l, fSl_f, fRev_t, fRev_l, wipeD_n, wipeD_c, mPN_e, mPS_e, mSl_e, mDct_e, mChain_e, gMax2_ii, fMulO_li, fMulT_e, iR2_e, fEqN_l, mLst_7, mLst_8, mLst_9, mLst_10, mLst_11, mLst_12, mLst_13, mLst_14, mLst_15, mLst_16, mLst_17, mLst_18, mLst_19, mLst_20, mDcx_e, mMeth_e, mMeth0_e, tyM_str, true_and, mLstO_0, mLstO_1, mLstO_2, mLstO_3, mLstO_4, mTup_4, mLstO_5, mLst_5, mTup_5, mLstO_6, mLst_6, mTup_6, gIsi_non_int, gIsi_non_bool, gIsi_non_tuple, gIsi_non_str, gIsi_non_list, fIs_non, gIsi_bl_int, gIsi_bl_bool, gIsi_bl_tuple, gIsi_bl_str, gIsi_bl_list, fIs_bl, gIsi_int_int, gIsi_int_bool, gIsi_int_tuple, gIsi_int_str, gIsi_int_list, fIs_int, gIsi_str_int, gIsi_str_bool, gIsi_str_tuple, gIsi_str_str, gIsi_str_list, fIs_str, gIsi_tup_int, gIsi_tup_bool, gIsi_tup_tuple, gIsi_tup_str, gIsi_tup_list, fIs_tup, gIsi_lst_int, gIsi_lst_bool, gIsi_lst_tuple, gIsi_lst_str, gIsi_lst_list, fIs_lst, gIsi_frz_int, gIsi_frz_bool, gIsi_frz_tuple, gIsi_frz_str, gIsi_frz_list, fIs_frz, gIsi_dct_int, gIsi_dct_bool, gIsi_dct_tuple, gIsi_dct_str, gIsi_dct_list, fIs_dct, List.map_cons, List.map_nil, List.length_cons, List.length_nil, List.cons_append, List.nil_append, List.set_cons_zero, List.set_cons_succ, List.replicate_zero, List.replicate_succ, strsV_len]
      refine draw_ok D3 (by omega) (by omega) (by omega) fun S4 kk D4' hk0 hk1 => ?_
      obtain ⟨k, rfl⟩ := Int.eq_ofNat_of_zero_le hk0
      have hk : k < L.length := by omega
      simp only [app3 r__law_other_3_e, mBody_e, startD_e, mNext_e, mSeq_e, mExpr_e, mRet_e, mRetN_e, mIfS_e, mBreak_e, mCont_e, mSet_e, mAsg_e, mPar2_e, mPar3_e, mVar_e, slot_0, slot_s, mC_e, mOp_e, mUn_e, mT_e, mAnd_e, mOr_e, mNot_e, mAndV_e, mOrV_e, mNotV_e, mIf_e, mTup_0, mTup_1, mTup_2, mTup_3, mLst_0, mLst_1, mLst_2, mLst_3, mLst_4, mCall_1, mCall_2, mCallF_1, mCallF_2, mCallF_3, mCallF_4, mFor_e, iR1_e, iZ_e, iE_e, iS_e, mLc_e, mLcO_e, mYes_e, gTg_e, bindT_nm, bindT_1, bindT_2, bindT_3, onEnv_s, onInt_i, onBl_b, onSeq_t, onSeq_l, onSeq_f, onZip_t, onZip_l, onEnum_t, onEnum_l, onT_t, onT_f, onSome_s, fAdd_ii, fAdd_tt, fAdd_ll, fAdd_ss, fSub_ii, fMul_ii, fMul_li, fDiv_ii, fMod_ii, fPow_ii, fNeg_i, fLe_ii, fGt_ii, fGe_ii, fLt_ii, fEq_ii, fEq_ss, fEq_bb, gLen_t, gLen_l, gLen_f, gInt_i, gInt_b, gBool_b, gList_t, gList_l, gList_f, gTuple_t, gTuple_l, gSum_t, gSum_l, fIx_t, fIx_l, fIx_f, fSl_t, fSl_l, fSl_f, fRev_t, fRev_l, wipeD_n, wipeD_c, mPN_e, mPS_e, mSl_e, mDct_e, mChain_e, gMax2_ii, fMulO_li, fMulT_e, iR2_e, fEqN_l, mLst_7, mLst_8, mLst_9, mLst_10, mLst_11, mLst_12, mLst_13, mLst_14, mLst_15, mLst_16, mLst_17, mLst_18, mLst_19, mLst_20, mDcx_e, mMeth_e, mMeth0_e, tyM_str, true_and, mLstO_0, mLstO_1, mLstO_2, mLstO_3, mLstO_4, mTup_4, mLstO_5, mLst_5, mTup_5, mLstO_6, mLst_6, mTup_6, gIsi_non_int, gIsi_non_bool, gIsi_non_tuple, gIsi_non_str, gIsi_non_list, fIs_non, gIsi_bl_int, gIsi_bl_bool, gIsi_bl_tuple, gIsi_bl_str, gIsi_bl_list, fIs_bl, gIsi_int_int, gIsi_int_bool, gIsi_int_tuple, gIsi_int_str, gIsi_int_list, fIs_int, gIsi_str_int, gIsi_str_bool, gIsi_str_tuple, gIsi_str_str, gIsi_str_list, fIs_str, gIsi_tup_int, gIsi_tup_bool, gIsi_tup_tuple, gIsi_tup_str, gIsi_tup_list, fIs_tup, gIsi_lst_int, gIsi_lst_bool, gIsi_lst_tuple, gIsi_lst_str, gIsi_lst_list, fIs_lst, gIsi_frz_int, gIsi_frz_bool, gIsi_frz_tuple, gIsi_frz_str, gIsi_frz_list, fIs_frz, gIsi_dct_int, gIsi_dct_bool, gIsi_dct_tuple, gIsi_dct_str, gIsi_dct_list, fIs_dct, List.map_cons, List.map_nil, List.length_cons, List.length_nil, List.cons_append, List.nil_append, List.set_cons_zero, List.set_cons_succ, List.replicate_zero, List.replicate_succ]
      by_cases e4 : way = 4
      · simp only [decide_eq_true e4, mBody_e, startD_e, mNext_e, mSeq_e, mExpr_e, mRet_e, mRetN_e, mIfS_e, mBreak_e, mCont_e, mSet_e, mAsg_e, mPar2_e, mPar3_e, mVar_e, slot_0, slot_s, mC_e, mOp_e, mUn_e, mT_e, mAnd_e, mOr_e, mNot_e, mAndV_e, mOrV_e, mNotV_e, mIf_e, mTup_0, mTup_1, mTup_2, mTup_3, mLst_0, mLst_1, mLst_2, mLst_3, mLst_4, mCall_1, mCall_2, mCallF_1, mCallF_2, mCallF_3, mCallF_4, mFor_e, iR1_e, iZ_e, iE_e, iS_e, mLc_e, mLcO_e, mYes_e, gTg_e, bindT_nm, bindT_1, bindT_2, bindT_3, onEnv_s, onInt_i, onBl_b, onSeq_t, onSeq_l, onSeq_f, onZip_t, onZip_l, onEnum_t, onEnum_l, onT_t, onT_f, onSome_s, fAdd_ii, fAdd_tt, fAdd_ll, fAdd_ss, fSub_ii, fMul_ii, fMul_li, fDiv_ii, fMod_ii, fPow_ii, fNeg_i, fLe_ii, fGt_ii, fGe_ii, fLt_ii, fEq_ii, fEq_ss, fEq_bb, gLen_t, gLen_l, gLen_f, gInt_i, gInt_b, gBool_b, gList_t, gList_l, gList_f, gTuple_t, gTuple_l, gSum_t, gSum_l, fIx_t, fIx_l, fIx_f, fSl_t, fSl_l, fSl_f, fRev_t, fRev_l, wipeD_n, wipeD_c, mPN_e, mPS_e, mSl_e, mDct_e, mChain_e, gMax2_ii, fMulO_li, fMulT_e, iR2_e, fEqN_l, mLst_7, mLst_8, mLst_9, mLst_10, mLst_11, mLst_12, mLst_13, mLst_14, mLst_15, mLst_16, mLst_17, mLst_18, mLst_19, mLst_20, mDcx_e, mMeth_e, mMeth0_e, tyM_str, true_and, mLstO_0, mLstO_1, mLstO_2, mLstO_3, mLstO_4, mTup_4, mLstO_5, mLst_5, mTup_5, mLstO_6, mLst_6, mTup_6, gIsi_non_int, gIsi_non_bool, gIsi_non_tuple, gIsi_non_str, gIsi_non_list, fIs_non, gIsi_bl_int, gIsi_bl_bool, gIsi_bl_tuple, gIsi_bl_str, gIsi_bl_list, fIs_bl, gIsi_int_int, gIsi_int_bool, gIsi_int_tuple, gIsi_int_str, gIsi_int_list, fIs_int, gIsi_str_int, gIsi_str_bool, gIsi_str_tuple, gIsi_str_str, gIsi_str_list, fIs_str, gIsi_tup_int, gIsi_tup_bool, gIsi_tup_tuple, gIsi_tup_str, gIsi_tup_list, fIs_tup, gIsi_lst_int, gIsi_lst_bool, gIsi_lst_tuple, gIsi_lst_str, gIsi_lst_list, fIs_lst, gIsi_frz_int, gIsi_frz_bool, gIsi_frz_tuple, gIsi_frz_str, gIsi_frz_list, fIs_frz, gIsi_dct_int, gIsi_dct_bool, gIsi_dct_tuple, gIsi_dct_str, gIsi_dct_list, fIs_dct, List.map_cons, List.map_nil, List.length_cons, List.length_nil, List.cons_append, List.nil_append, List.set_cons_zero, List.set_cons_succ, List.replicate_zero, List.replicate_succ]
        have f1 : DL.cutD (strsV L) none (some (k : Int)) = strsV (L.take k) := by rw [LB.cut_take, strs_map]
        have f2 : DL.cutD (strsV L) (some ((k : Int) + 1)) none = strsV (L.drop (k + 1)) := by rw [show (k : Int) + 1 = ((k + 1 : Nat) : Int) by omega, LB.cut_drop, strs_drop]
        rw [f1, f2, strs_app, strsV_len, strsV_len]
        have h2 := sum_part (L := L) k (k + 1)
        have h3 : (L.take k ++ L.drop (k + 1)).length ≤ L.length := by rw [List.length_append, List.length_take, List.length_drop]; omega
        refine ⟨by rw [List.length_take, List.length_drop]; omega, join_g (by omega) ?_⟩
        refine q S4 _ _ D4' (by omega) (Tx.join (by omega) fun w hw => ?_)
        rcases List.mem_append.mp hw with hw | hw
        · exact sgl w (List.mem_of_mem_take hw)
        · exact sgl w (List.mem_of_mem_drop hw)
      · have ek : atI (strsV L) (k : Int) = some (.str L[k]) := by
          rw [DL.atI_at]
          unfold strsV
          rw [List.getElem?_map, List.getElem?_eq_getElem hk]
          rfl
        simp only [decide_eq_false e4, mBody_e, startD_e, mNext_e, mSeq_e, mExpr_e, mRet_e, mRetN_e, mIfS_e, mBreak_e, mCont_e, mSet_e, mAsg_e, mPar2_e, mPar3_e, mVar_e, slot_0, slot_s, mC_e, mOp_e, mUn_e, mT_e, mAnd_e, mOr_e, mNot_e, mAndV_e, mOrV_e, mNotV_e, mIf_e, mTup_0, mTup_1, mTup_2, mTup_3, mLst_0, mLst_1, mLst_2, mLst_3, mLst_4, mCall_1, mCall_2, mCallF_1, mCallF_2, mCallF_3, mCallF_4, mFor_e, iR1_e, iZ_e, iE_e, iS_e, mLc_e, mLcO_e, mYes_e, gTg_e, bindT_nm, bindT_1, bindT_2, bindT_3, onEnv_s, onInt_i, onBl_b, onSeq_t, onSeq_l, onSeq_f, onZip_t, onZip_l, onEnum_t, onEnum_l, onT_t, onT_f, onSome_s, fAdd_ii, fAdd_tt, fAdd_ll, fAdd_ss, fSub_ii, fMul_ii, fMul_li, fDiv_ii, fMod_ii, fPow_ii, fNeg_i, fLe_ii, fGt_ii, fGe_ii, fLt_ii, fEq_ii, fEq_ss, fEq_bb, gLen_t, gLen_l, gLen_f, gInt_i, gInt_b, gBool_b, gList_t, gList_l, gList_f, gTuple_t, gTuple_l, gSum_t, gSum_l, fIx_t, fIx_l, fIx_f, fSl_t, fSl_l, fSl_f, fRev_t, fRev_l, wipeD_n, wipeD_c, mPN_e, mPS_e, mSl_e, mDct_e, mChain_e, gMax2_ii, fMulO_li, fMulT_e, iR2_e, fEqN_l, mLst_7, mLst_8, mLst_9, mLst_10, mLst_11, mLst_12, mLst_13, mLst_14, mLst_15, mLst_16, mLst_17, mLst_18, mLst_19, mLst_20, mDcx_e, mMeth_e, mMeth0_e, tyM_str, true_and, mLstO_0, mLstO_1, mLstO_2, mLstO_3, mLstO_4, mTup_4, mLstO_5, mLst_5, mTup_5, mLstO_6, mLst_6, mTup_6, gIsi_non_int, gIsi_non_bool, gIsi_non_tuple, gIsi_non_str, gIsi_non_list, fIs_non, gIsi_bl_int, gIsi_bl_bool, gIsi_bl_tuple, gIsi_bl_str, gIsi_bl_list, fIs_bl, gIsi_int_int, gIsi_int_bool, gIsi_int_tuple, gIsi_int_str, gIsi_int_list, fIs_int, gIsi_str_int, gIsi_str_bool, gIsi_str_tuple, gIsi_str_str, gIsi_str_list, fIs_str, gIsi_tup_int, gIsi_tup_bool, gIsi_tup_tuple, gIsi_tup_str, gIsi_tup_list, fIs_tup, gIsi_lst_int, gIsi_lst_bool, gIsi_lst_tuple, gIsi_lst_str, gIsi_lst_list, fIs_lst, gIsi_frz_int, gIsi_frz_bool, gIsi_frz_tuple, gIsi_frz_str, gIsi_frz_list, fIs_frz, gIsi_dct_int, gIsi_dct_bool, gIsi_dct_tuple, gIsi_dct_str, gIsi_dct_list, fIs_dct, app3 r__law_other_2_e, List.map_cons, List.map_nil, List.length_cons, List.length_nil, List.cons_append, List.nil_append, List.set_cons_zero, List.set_cons_succ, List.replicate_zero, List.replicate_succ, ek]
        have em : [DV.str L[k], DV.str (Str.ofString ""), DV.str (Str.ofString "goods 2"), DV.str (Str.ofString "1 = 0"), DV.str (Str.ofString "0 0 = 0 0"), DV.str (Str.ofString "1 0 2 = 0 0 0"), DV.str (Str.ofString " "), DV.str (Str.ofString "= =")] = strsV (L[k] :: moreL) := rfl
        rw [em]
        refine one_ok D4' (by rw [strsV_len]; simp) (by rw [strsV_len]; simp [moreL]) (by omega) fun S5 d D5 hd => ?_
        obtain ⟨mo, hmo, rfl⟩ := str_mem hd
        have tm : Tx (n + 13) mo := by
          rcases List.mem_cons.mp hmo with rfl | hmo
          · exact ⟨by have := sl L[k] (List.getElem_mem hk); omega, sgl _ (List.getElem_mem hk)⟩
          · exact (more_ok mo hmo).up (by omega)
        have fin : ∀ j : Nat, (L.take j ++ [mo] ++ L.drop j).length ≤ 16777216 → ∀ E', gJoin (.str (Str.ofString "\n")) [.lst (strsV (L.take j ++ [mo] ++ L.drop j))] S5 (fun x S => Q x S) ∨ E' := fun j _ E' => .inl (by
          have h2 := sum_part (L := L) j j
          rw [List.map_append, List.sum_append] at h2
          have h3 : (L.take j ++ L.drop j).length = L.length := by rw [List.take_append_drop]
          rw [List.length_append] at h3
          have h4 := tm.len
          have h5 : ((L.take j ++ [mo] ++ L.drop j).map (·.length)).sum = ((L.take j).map (·.length)).sum + mo.length + ((L.drop j).map (·.length)).sum := by
            simp [List.map_append, List.sum_append]
            omega
          have h6 : (L.take j ++ [mo] ++ L.drop j).length = L.length + 1 := by
            rw [List.length_append, List.length_append, List.length_singleton]
            omega
          refine join_g (by omega) ?_
          refine q S5 _ _ D5 (by omega) (Tx.join (by omega) fun w hw => ?_)
          rcases List.mem_append.mp hw with hw | hw
          · rcases List.mem_append.mp hw with hw | hw
            · exact sgl w (List.mem_of_mem_take hw)
            · rw [List.mem_singleton.mp hw]
              exact tm.sg
          · exact sgl w (List.mem_of_mem_drop hw))
        have len : ∀ j : Nat, (L.take j).length + 1 + (L.drop j).length ≤ 16777216 := fun j => by
          rw [List.length_take, List.length_drop]
          omega
        have len2 : ∀ j : Nat, (L.take j ++ [mo] ++ L.drop j).length ≤ 16777216 := fun j => by
          rw [List.length_append, List.length_append, List.length_singleton]
          exact len j
        simp only [app3 r__law_other_1_e, mBody_e, startD_e, mNext_e, mSeq_e, mExpr_e, mRet_e, mRetN_e, mIfS_e, mBreak_e, mCont_e, mSet_e, mAsg_e, mPar2_e, mPar3_e, mVar_e, slot_0, slot_s, mC_e, mOp_e, mUn_e, mT_e, mAnd_e, mOr_e, mNot_e, mAndV_e, mOrV_e, mNotV_e, mIf_e, mTup_0, mTup_1, mTup_2, mTup_3, mLst_0, mLst_1, mLst_2, mLst_3, mLst_4, mCall_1, mCall_2, mCallF_1, mCallF_2, mCallF_3, mCallF_4, mFor_e, iR1_e, iZ_e, iE_e, iS_e, mLc_e, mLcO_e, mYes_e, gTg_e, bindT_nm, bindT_1, bindT_2, bindT_3, onEnv_s, onInt_i, onBl_b, onSeq_t, onSeq_l, onSeq_f, onZip_t, onZip_l, onEnum_t, onEnum_l, onT_t, onT_f, onSome_s, fAdd_ii, fAdd_tt, fAdd_ll, fAdd_ss, fSub_ii, fMul_ii, fMul_li, fDiv_ii, fMod_ii, fPow_ii, fNeg_i, fLe_ii, fGt_ii, fGe_ii, fLt_ii, fEq_ii, fEq_ss, fEq_bb, gLen_t, gLen_l, gLen_f, gInt_i, gInt_b, gBool_b, gList_t, gList_l, gList_f, gTuple_t, gTuple_l, gSum_t, gSum_l, fIx_t, fIx_l, fIx_f, fSl_t, fSl_l, fSl_f, fRev_t, fRev_l, wipeD_n, wipeD_c, mPN_e, mPS_e, mSl_e, mDct_e, mChain_e, gMax2_ii, fMulO_li, fMulT_e, iR2_e, fEqN_l, mLst_7, mLst_8, mLst_9, mLst_10, mLst_11, mLst_12, mLst_13, mLst_14, mLst_15, mLst_16, mLst_17, mLst_18, mLst_19, mLst_20, mDcx_e, mMeth_e, mMeth0_e, tyM_str, true_and, mLstO_0, mLstO_1, mLstO_2, mLstO_3, mLstO_4, mTup_4, mLstO_5, mLst_5, mTup_5, mLstO_6, mLst_6, mTup_6, gIsi_non_int, gIsi_non_bool, gIsi_non_tuple, gIsi_non_str, gIsi_non_list, fIs_non, gIsi_bl_int, gIsi_bl_bool, gIsi_bl_tuple, gIsi_bl_str, gIsi_bl_list, fIs_bl, gIsi_int_int, gIsi_int_bool, gIsi_int_tuple, gIsi_int_str, gIsi_int_list, fIs_int, gIsi_str_int, gIsi_str_bool, gIsi_str_tuple, gIsi_str_str, gIsi_str_list, fIs_str, gIsi_tup_int, gIsi_tup_bool, gIsi_tup_tuple, gIsi_tup_str, gIsi_tup_list, fIs_tup, gIsi_lst_int, gIsi_lst_bool, gIsi_lst_tuple, gIsi_lst_str, gIsi_lst_list, fIs_lst, gIsi_frz_int, gIsi_frz_bool, gIsi_frz_tuple, gIsi_frz_str, gIsi_frz_list, fIs_frz, gIsi_dct_int, gIsi_dct_bool, gIsi_dct_tuple, gIsi_dct_str, gIsi_dct_list, fIs_dct, List.map_cons, List.map_nil, List.length_cons, List.length_nil, List.cons_append, List.nil_append, List.set_cons_zero, List.set_cons_succ, List.replicate_zero, List.replicate_succ]
        have go : ∀ j : Nat, ((strsV (L.take j)).length + 1 ≤ 16777216 ∧ (strsV (L.take j) ++ [DV.str mo]).length + (strsV (L.drop j)).length ≤ 16777216) ∧ strsV (L.take j) ++ [DV.str mo] ++ strsV (L.drop j) = strsV (L.take j ++ [mo] ++ L.drop j) := fun j => by
          refine ⟨⟨?_, ?_⟩, ?_⟩
          · rw [strsV_len]
            have := len j
            omega
          · rw [List.length_append, strsV_len, strsV_len, List.length_singleton]
            exact len j
          · rw [← strs_app, ← strs_app]
            rfl
        have use : ∀ j : Nat, DL.cutD (strsV L) none (some (j : Int)) = strsV (L.take j) ∧ DL.cutD (strsV L) (some (j : Int)) none = strsV (L.drop j) := fun j => ⟨by rw [LB.cut_take, strs_map], by rw [LB.cut_drop, strs_drop]⟩
        by_cases e5 : way = 5
        · simp only [decide_eq_true e5, if_true]
          rw [show (k : Int) + 1 = ((k + 1 : Nat) : Int) by omega, (use (k + 1)).1, (use (k + 1)).2]
          obtain ⟨⟨g1, g2⟩, g3⟩ := go (k + 1)
          refine ⟨g1, g2, ?_⟩
          rw [g3]
          exact (fin (k + 1) (len2 _) False).resolve_right id
        · simp only [decide_eq_false e5, Bool.false_eq_true, if_false]
          rw [show (k : Int) + 0 = ((k : Nat) : Int) by omega, (use k).1, (use k).2]
          obtain ⟨⟨g1, g2⟩, g3⟩ := go k
          refine ⟨g1, g2, ?_⟩
          rw [g3]
          exact (fin k (len2 _) False).resolve_right id
/-! ### what is found, as data -/
theorem bagS_good {ws : List Str} {a : List Int} (h : bagS ws = some a) : a.length = ws.length ∧ In0 a ∧ a.sum ≤ 4 := by
  unfold bagS at h
  split at h
  · rename_i h1
    split at h
    · rename_i h2
      cases h
      rw [Bool.and_eq_true] at h2
      refine ⟨by simp [bagL], fun x hx => ?_, of_decide_eq_true h2.2⟩
      have hu := of_decide_eq_true (List.all_eq_true.mp h2.1 x hx)
      obtain ⟨w, hw, rfl⟩ := List.mem_map.mp hx
      obtain ⟨i, hi⟩ := Option.isSome_iff_exists.mp (List.all_eq_true.mp h1 w hw)
      rw [hi] at hu ⊢
      refine ⟨?_, hu⟩
      unfold digS at hi
      match ht : tl w, hi with
      | [], hi => cases hi
      | [c], hi =>
        have h' : (if 48 ≤ c ∧ c ≤ 52 then some ((c : Int) - 48) else none) = some i := hi
        split at h'
        · cases h'
          show (0 : Int) ≤ (c : Int) - 48
          omega
        · cases h'
      | _ :: _ :: _, hi => cases hi
    · cases h
  · cases h
theorem tradeS_good {l : Str} {g : Nat} {r : Rl} (h : tradeS l g = some r) : GoodT g 4 r := by
  unfold tradeS at h
  split at h
  · rename_i c
    split at h
    · rename_i a b h1 h2
      cases h
      obtain ⟨a1, a2, a3⟩ := bagS_good h1
      obtain ⟨b1, b2, b3⟩ := bagS_good h2
      rw [List.length_take] at a1
      rw [List.length_drop] at b1
      exact ⟨by show a.length = g; omega, by show b.length = g; omega, a2, b2, a3, b3⟩
    · cases h
  · cases h
inductive RdOk : Rd → Prop where
  | ok {g : Nat} {ts : List Rl} : g ≤ 4 → ts.length ≤ 4 → (∀ r ∈ ts, GoodT g 4 r) → RdOk (.ok g ts)
  | bad {k : Nat} : k ≤ 5 → RdOk (.bad k)
theorem readL_ok {g : Nat} (hg : g ≤ 4) : ∀ (ls : List Str) (k : Nat) (acc : List Rl), k ≤ 4 → acc.length = k → (∀ r ∈ acc, GoodT g 4 r) → RdOk (readL g k ls acc)
  | [], k, acc, h1, h2, h3 => .ok hg (by omega) h3
  | l :: ls, k, acc, h1, h2, h3 => by
    unfold readL
    cases ht : tradeS l g with
    | none => exact .bad (by omega)
    | some r =>
      show RdOk (if k = 4 then .bad (k + 1) else readL g (k + 1) ls (acc ++ [r]))
      split
      · exact .bad (by omega)
      · refine readL_ok hg ls (k + 1) (acc ++ [r]) (by omega) (by rw [List.length_append, h2]; rfl) fun z hz => ?_
        rcases List.mem_append.mp hz with hz | hz
        · exact h3 z hz
        · rw [List.mem_singleton.mp hz]
          exact tradeS_good ht
theorem readS_ok (x : Str) : RdOk (readS x) := by
  unfold readS
  split
  · exact .bad (by omega)
  · rename_i l ls _
    split
    · exact .bad (by omega)
    · refine readL_ok ?_ ls 0 [] (by omega) rfl fun r hr => nomatch hr
      unfold goodsS
      repeat' split
      all_goals omega
def foundP : Rd → PyData
  | .ok g ts => .list [.str "ok", mP g ts]
  | .bad k => .list [.str "bad", .int k]
theorem toP_found : ∀ r : Rd, toP (foundV r) = some (foundP r)
  | .ok g ts => toP_lst (toPs_cons rfl (toPs_cons (toP_mV g ts) rfl))
  | .bad k => toP_lst (toPs_cons rfl (toPs_cons rfl rfl))
theorem found_b {r : Rd} (h : RdOk r) : bndP (foundP r) = true ∧ (foundP r).depth ≤ 20 ∧ szP (foundP r) ≤ 100000 := by
  cases h with
  | @ok g ts h1 h2 h3 =>
    obtain ⟨b1, b2⟩ := bnd_rs (ts := ts) fun r hr => (h3 r hr).sml (by omega)
    have hd := depth_mP g ts
    refine ⟨?_, ?_, ?_⟩
    · simp only [foundP, mP, bndP, bndAll, b1, Bool.and_true, Bool.and_eq_true]
      exact ⟨by decide +kernel, decide_eq_true (by omega)⟩
    · simp only [foundP, PyData.depth, PyData.depthAll]
      omega
    · have e : (Str.ofString "ok").length = 2 := by decide +kernel
      simp only [foundP, mP, szP, szAll, e]
      omega
  | @bad k h1 =>
    refine ⟨?_, ?_, ?_⟩
    · simp only [foundP, bndP, bndAll, Bool.and_true, Bool.and_eq_true]
      exact ⟨by decide +kernel, decide_eq_true (by omega)⟩
    · simp only [foundP, PyData.depth, PyData.depthAll]
      omega
    · have e : (Str.ofString "bad").length = 3 := by decide +kernel
      simp only [foundP, szP, szAll, e]
      omega
theorem found_repr {r : Rd} (h : RdOk r) : reprOk (foundP r) := by
  obtain ⟨h1, h2, h3⟩ := found_b h
  exact reprOk_of h1 (by omega) (by omega)
theorem read_empty : readS (Str.ofString "") = .bad 0 := by
  have e : Txt.split (Str.ofString "") (Str.ofString "\n") = [Str.ofString ""] := by decide +kernel
  unfold readS
  rw [e]
  show (if goodsS (Str.ofString "") = 0 then Rd.bad 0 else readL (goodsS (Str.ofString "")) 0 [] []) = .bad 0
  rw [if_pos (by decide +kernel)]
theorem tradeS_empty {g : Nat} (hg : 0 < g) : tradeS (Str.ofString "") g = none := by
  have e : Txt.split (Str.ofString "") (Str.ofString " ") = [Str.ofString ""] := by decide +kernel
  unfold tradeS
  rw [e, if_neg]
  rintro ⟨h, _⟩
  simp at h
  omega
theorem readL_more {g : Nat} (hg : 0 < g) : ∀ (ts : List Rl) (k : Nat) (acc : List Rl), k + ts.length ≤ 4 → (∀ r ∈ ts, GoodT g 4 r) → readL g k (ts.map lineT ++ [Str.ofString ""]) acc = .bad (k + ts.length + 1)
  | [], k, acc, _, _ => by
    show (match tradeS (Str.ofString "") g with
      | none => Rd.bad (k + 1)
      | some r => if k = 4 then .bad (k + 1) else readL g (k + 1) [] (acc ++ [r])) = _
    rw [tradeS_empty hg]
    rfl
  | r :: ts, k, acc, h1, h2 => by
    rw [List.length_cons] at h1
    show (match tradeS (lineT r) g with
      | none => Rd.bad (k + 1)
      | some r => if k = 4 then .bad (k + 1) else readL g (k + 1) (ts.map lineT ++ [Str.ofString ""]) (acc ++ [r])) = _
    rw [tradeS_line hg (h2 r List.mem_cons_self)]
    show (if k = 4 then Rd.bad (k + 1) else readL g (k + 1) (ts.map lineT ++ [Str.ofString ""]) (acc ++ [r])) = _
    rw [if_neg (by omega), readL_more hg ts (k + 1) _ (by omega) fun x hx => h2 x (List.mem_cons_of_mem _ hx), List.length_cons]
    congr 1
    omega
theorem read_more {g : Nat} {ts : List Rl} (T : TextM g ts) : readS (mText g ts ++ Str.ofString "\n") = .bad (ts.length + 1) := by
  have e0 : mText g ts ++ Str.ofString "\n" = Txt.join (Str.ofString "\n") ((headT g :: ts.map lineT) ++ [Str.ofString ""]) := by
    refine ext_tl ?_
    unfold mText
    rw [tl_append, join_eq, join_eq, tl_join, tl_join, List.map_append, joinL_app _ _ _ (by simp) (by simp)]
    have e : tl (Str.ofString "") = [] := by decide +kernel
    simp only [List.map_cons, List.map_nil, e, joinL, List.append_nil]
  have e : Txt.split (mText g ts ++ Str.ofString "\n") (Str.ofString "\n") = headT g :: (ts.map lineT ++ [Str.ofString ""]) := by
    rw [e0]
    refine TL.split_join (s := 10) (S := []) tl_nl (by decide +kernel) (by simp) fun p hp => ?_
    rcases List.mem_append.mp hp with hp | hp
    · rcases List.mem_cons.mp hp with rfl | hp
      · exact head_no (by have := T.g4; omega)
      · obtain ⟨r, hr, rfl⟩ := List.mem_map.mp hp
        exact line_no (in9 (T.all r hr).a1) (in9 (T.all r hr).a2)
    · rw [List.mem_singleton.mp hp]
      decide +kernel
  unfold readS
  rw [e]
  show (if goodsS (headT g) = 0 then Rd.bad 0 else readL (goodsS (headT g)) 0 (ts.map lineT ++ [Str.ofString ""]) []) = _
  rw [goodsS_head T.g0 T.g4, if_neg (by have := T.g0; omega), readL_more T.g0 ts 0 [] (by have := T.len; omega) T.all]
  congr 1
  omega
theorem text_tx {g : Nat} {ts : List Rl} (T : TextM g ts) : Tx 1000 (mText g ts) := ⟨mText_len T, fun c h => by
  have h' : c ∈ tl (mText g ts) := h
  unfold mText at h'
  rw [join_eq, tl_join, tl_nl] at h'
  have dig : ∀ {a : List Int}, In9 a → ∀ p ∈ (sA a).map tl, ∀ c ∈ p, c < 128 := fun ha p hp c hc => by
    obtain ⟨x, hx, rfl⟩ := List.mem_map.mp hp
    obtain ⟨i, hi, rfl⟩ := List.mem_map.mp hx
    rw [sI_tl (ha i hi).1 (ha i hi).2] at hc
    have := List.mem_singleton.mp hc
    have := ha i hi
    omega
  rcases mem_joinL h' with h | ⟨p, hp, h⟩
  · have := List.mem_singleton.mp h
    omega
  · rcases List.mem_cons.mp hp with rfl | hp
    · have h4 := T.g4
      have e : tl (headT g) = [103, 111, 111, 100, 115, 32] ++ [48 + g] := by
        unfold headT
        rw [tl_append, sI_tl (by omega) (by omega), Int.toNat_natCast]
        have e : tl (Str.ofString "goods ") = [103, 111, 111, 100, 115, 32] := by decide +kernel
        rw [e]
      rw [e] at h
      simp only [List.mem_append, List.mem_cons, List.not_mem_nil, or_false] at h
      omega
    · obtain ⟨l, hl, rfl⟩ := List.mem_map.mp hp
      obtain ⟨r, hr, rfl⟩ := List.mem_map.mp hl
      have G := T.all r hr
      unfold lineT bagT at h
      rw [tl_append, tl_append, join_eq, join_eq, tl_join, tl_join, tl_sp] at h
      have one : ∀ {a : List Int}, In9 a → c ∈ joinL [32] ((sA a).map tl) → c < 128 := fun ha h => by
        rcases mem_joinL h with h | ⟨p, hp, h⟩
        · have := List.mem_singleton.mp h
          omega
        · exact dig ha p hp c h
      rcases List.mem_append.mp h with h | h
      · rcases List.mem_append.mp h with h | h
        · exact one (in9 G.a1) h
        · have e : tl (Str.ofString " = ") = [32, 61, 32] := by decide +kernel
          rw [e] at h
          simp only [List.mem_cons, List.not_mem_nil, or_false] at h
          omega
      · exact one (in9 G.a2) h⟩
end G_k06
namespace G_k06
open PySem PySem.Spec PyProof.Rows L2 DL LB PySem.W TL
theorem Tx.mono {n m : Nat} {x : Str} (h : Tx n x) (hm : n ≤ m) : Tx m x := ⟨Nat.le_trans h.len hm, h.sg⟩
theorem dk_get {t : Nat} {R S : Store} {i : Nat} {d : Option DO} (D : Dk t R S) (h : R[i]? = some d) : S[i + 2]? = some d := by
  obtain ⟨cells, rests, rfl, h1, h2⟩ := D
  exact h
theorem pre_get {R R2 : Store} {d : Option DO} (h : R ++ [d] <+: R2) : R2[R.length]? = some d := by
  obtain ⟨z, rfl⟩ := h
  simp
def badP (k : Nat) : PyData := .list [.str (Str.ofString "bad"), .int k]
def badV : Option Nat → DV
  | some k => .lst [.str (Str.ofString "bad"), .int k]
  | none => .lst [.str (Str.ofString "bad"), .non]
theorem bads_repr {k : Nat} (hk : k ≤ 5) : ∃ p, toP (.lst [.lst [.str (Str.ofString "bad"), .non], .lst [.str (Str.ofString "bad"), .int (0 : Int)], .lst [.str (Str.ofString "bad"), .int (k : Int)]]) = some p ∧ reprOk p := by
  refine ⟨.list [.list [.str (Str.ofString "bad"), .none], .list [.str (Str.ofString "bad"), .int 0], .list [.str (Str.ofString "bad"), .int k]], toP_lst (toPs_cons (toP_lst (toPs_cons rfl (toPs_cons rfl rfl))) (toPs_cons (toP_lst (toPs_cons rfl (toPs_cons rfl rfl))) (toPs_cons (toP_lst (toPs_cons rfl (toPs_cons rfl rfl))) rfl))), ?_⟩
  have hb : (Str.ofString "bad").length = 3 := by decide +kernel
  refine reprOk_of ?_ ?_ ?_
  · simp only [bndP, bndAll, Bool.and_true, Bool.and_eq_true]
    repeat' apply And.intro
    all_goals first | decide +kernel | exact decide_eq_true (by omega) | trivial
  · simp only [PyData.depth, PyData.depthAll]
    omega
  · simp only [szP, szAll, hb]
    omega
theorem gLen_ref {p : Nat} {ds : List DV} {S : Store} {Q : MK DV} (h : seqD S (.ref p) = some ds) (q : Q (.int ds.length) S) : gLen [.ref p] S Q := by
  show (match seqD S (.ref p) with
    | some ds => Q (.int ds.length) S
    | none => False)
  rw [h]
  exact q
theorem law_ok : LawG 63 m_law := by
  intro ns hn hb
  simp only [app4 m_law_e, app3 b_law_e, mBody_e, startD_e, mNext_e, mSeq_e, mExpr_e, mRet_e, mRetN_e, mIfS_e, mBreak_e, mCont_e, mSet_e, mAsg_e, mPar2_e, mPar3_e, mVar_e, slot_0, slot_s, mC_e, mOp_e, mUn_e, mT_e, mAnd_e, mOr_e, mNot_e, mAndV_e, mOrV_e, mNotV_e, mIf_e, mTup_0, mTup_1, mTup_2, mTup_3, mLst_0, mLst_1, mLst_2, mLst_3, mLst_4, mCall_1, mCall_2, mCallF_1, mCallF_2, mCallF_3, mCallF_4, mFor_e, iR1_e, iZ_e, iE_e, iS_e, mLc_e, mLcO_e, mYes_e, gTg_e, bindT_nm, bindT_1, bindT_2, bindT_3, onEnv_s, onInt_i, onBl_b, onSeq_t, onSeq_l, onSeq_f, onZip_t, onZip_l, onEnum_t, onEnum_l, onT_t, onT_f, onSome_s, fAdd_ii, fAdd_tt, fAdd_ll, fAdd_ss, fSub_ii, fMul_ii, fMul_li, fDiv_ii, fMod_ii, fPow_ii, fNeg_i, fLe_ii, fGt_ii, fGe_ii, fLt_ii, fEq_ii, fEq_ss, fEq_bb, gLen_t, gLen_l, gLen_f, gInt_i, gInt_b, gBool_b, gList_t, gList_l, gList_f, gTuple_t, gTuple_l, gSum_t, gSum_l, fIx_t, fIx_l, fIx_f, fSl_t, fSl_l, fSl_f, fRev_t, fRev_l, wipeD_n, wipeD_c, mPN_e, mPS_e, mSl_e, mDct_e, mChain_e, gMax2_ii, fMulO_li, fMulT_e, iR2_e, fEqN_l, mLst_7, mLst_8, mLst_9, mLst_10, mLst_11, mLst_12, mLst_13, mLst_14, mLst_15, mLst_16, mLst_17, mLst_18, mLst_19, mLst_20, mDcx_e, mMeth_e, mMeth0_e, tyM_str, true_and, mLstO_0, mLstO_1, mLstO_2, mLstO_3, mLstO_4, mTup_4, mLstO_5, mLst_5, mTup_5, mLstO_6, mLst_6, mTup_6, gIsi_non_int, gIsi_non_bool, gIsi_non_tuple, gIsi_non_str, gIsi_non_list, fIs_non, gIsi_bl_int, gIsi_bl_bool, gIsi_bl_tuple, gIsi_bl_str, gIsi_bl_list, fIs_bl, gIsi_int_int, gIsi_int_bool, gIsi_int_tuple, gIsi_int_str, gIsi_int_list, fIs_int, gIsi_str_int, gIsi_str_bool, gIsi_str_tuple, gIsi_str_str, gIsi_str_list, fIs_str, gIsi_tup_int, gIsi_tup_bool, gIsi_tup_tuple, gIsi_tup_str, gIsi_tup_list, fIs_tup, gIsi_lst_int, gIsi_lst_bool, gIsi_lst_tuple, gIsi_lst_str, gIsi_lst_list, fIs_lst, gIsi_frz_int, gIsi_frz_bool, gIsi_frz_tuple, gIsi_frz_str, gIsi_frz_list, fIs_frz, gIsi_dct_int, gIsi_dct_bool, gIsi_dct_tuple, gIsi_dct_str, gIsi_dct_list, fIs_dct, List.map_cons, List.map_nil, List.length_cons, List.length_nil, List.cons_append, List.nil_append, List.set_cons_zero, List.set_cons_succ, List.replicate_zero, List.replicate_succ]
  refine deck_ok hn fun S0 D0 => ?_
  simp only [mBody_e, startD_e, mNext_e, mSeq_e, mExpr_e, mRet_e, mRetN_e, mIfS_e, mBreak_e, mCont_e, mSet_e, mAsg_e, mPar2_e, mPar3_e, mVar_e, slot_0, slot_s, mC_e, mOp_e, mUn_e, mT_e, mAnd_e, mOr_e, mNot_e, mAndV_e, mOrV_e, mNotV_e, mIf_e, mTup_0, mTup_1, mTup_2, mTup_3, mLst_0, mLst_1, mLst_2, mLst_3, mLst_4, mCall_1, mCall_2, mCallF_1, mCallF_2, mCallF_3, mCallF_4, mFor_e, iR1_e, iZ_e, iE_e, iS_e, mLc_e, mLcO_e, mYes_e, gTg_e, bindT_nm, bindT_1, bindT_2, bindT_3, onEnv_s, onInt_i, onBl_b, onSeq_t, onSeq_l, onSeq_f, onZip_t, onZip_l, onEnum_t, onEnum_l, onT_t, onT_f, onSome_s, fAdd_ii, fAdd_tt, fAdd_ll, fAdd_ss, fSub_ii, fMul_ii, fMul_li, fDiv_ii, fMod_ii, fPow_ii, fNeg_i, fLe_ii, fGt_ii, fGe_ii, fLt_ii, fEq_ii, fEq_ss, fEq_bb, gLen_t, gLen_l, gLen_f, gInt_i, gInt_b, gBool_b, gList_t, gList_l, gList_f, gTuple_t, gTuple_l, gSum_t, gSum_l, fIx_t, fIx_l, fIx_f, fSl_t, fSl_l, fSl_f, fRev_t, fRev_l, wipeD_n, wipeD_c, mPN_e, mPS_e, mSl_e, mDct_e, mChain_e, gMax2_ii, fMulO_li, fMulT_e, iR2_e, fEqN_l, mLst_7, mLst_8, mLst_9, mLst_10, mLst_11, mLst_12, mLst_13, mLst_14, mLst_15, mLst_16, mLst_17, mLst_18, mLst_19, mLst_20, mDcx_e, mMeth_e, mMeth0_e, tyM_str, true_and, mLstO_0, mLstO_1, mLstO_2, mLstO_3, mLstO_4, mTup_4, mLstO_5, mLst_5, mTup_5, mLstO_6, mLst_6, mTup_6, gIsi_non_int, gIsi_non_bool, gIsi_non_tuple, gIsi_non_str, gIsi_non_list, fIs_non, gIsi_bl_int, gIsi_bl_bool, gIsi_bl_tuple, gIsi_bl_str, gIsi_bl_list, fIs_bl, gIsi_int_int, gIsi_int_bool, gIsi_int_tuple, gIsi_int_str, gIsi_int_list, fIs_int, gIsi_str_int, gIsi_str_bool, gIsi_str_tuple, gIsi_str_str, gIsi_str_list, fIs_str, gIsi_tup_int, gIsi_tup_bool, gIsi_tup_tuple, gIsi_tup_str, gIsi_tup_list, fIs_tup, gIsi_lst_int, gIsi_lst_bool, gIsi_lst_tuple, gIsi_lst_str, gIsi_lst_list, fIs_lst, gIsi_frz_int, gIsi_frz_bool, gIsi_frz_tuple, gIsi_frz_str, gIsi_frz_list, fIs_frz, gIsi_dct_int, gIsi_dct_bool, gIsi_dct_tuple, gIsi_dct_str, gIsi_dct_list, fIs_dct, List.map_cons, List.map_nil, List.length_cons, List.length_nil, List.cons_append, List.nil_append, List.set_cons_zero, List.set_cons_succ, List.replicate_zero, List.replicate_succ, app3 r_law_10_e]
  refine ⟨by decide, by decide, ?_⟩
  refine forGo_ind (fun xs δ S => ∃ (t : Nat) (R : Store) (d2 d3 d4 d5 d6 d7 d8 d9 d10 d11 : Option DV), δ = [some (.frz (intsV ns)), some (.ref 1), d2, d3, d4, d5, d6, d7, d8, d9, d10, d11, none] ∧ Dk t R S ∧ t + 4000 * xs.length ≤ 32000) ?hn ?hs _ _ _ ⟨0, [], _, _, _, _, _, _, _, _, _, _, rfl, D0, by rw [rngD_len]; decide⟩
  case hn =>
    rintro δ S ⟨t, R, d2, d3, d4, d5, d6, d7, d8, d9, d10, d11, rfl, D, ht⟩
    simp only [app3 r_law_9_e, mBody_e, startD_e, mNext_e, mSeq_e, mExpr_e, mRet_e, mRetN_e, mIfS_e, mBreak_e, mCont_e, mSet_e, mAsg_e, mPar2_e, mPar3_e, mVar_e, slot_0, slot_s, mC_e, mOp_e, mUn_e, mT_e, mAnd_e, mOr_e, mNot_e, mAndV_e, mOrV_e, mNotV_e, mIf_e, mTup_0, mTup_1, mTup_2, mTup_3, mLst_0, mLst_1, mLst_2, mLst_3, mLst_4, mCall_1, mCall_2, mCallF_1, mCallF_2, mCallF_3, mCallF_4, mFor_e, iR1_e, iZ_e, iE_e, iS_e, mLc_e, mLcO_e, mYes_e, gTg_e, bindT_nm, bindT_1, bindT_2, bindT_3, onEnv_s, onInt_i, onBl_b, onSeq_t, onSeq_l, onSeq_f, onZip_t, onZip_l, onEnum_t, onEnum_l, onT_t, onT_f, onSome_s, fAdd_ii, fAdd_tt, fAdd_ll, fAdd_ss, fSub_ii, fMul_ii, fMul_li, fDiv_ii, fMod_ii, fPow_ii, fNeg_i, fLe_ii, fGt_ii, fGe_ii, fLt_ii, fEq_ii, fEq_ss, fEq_bb, gLen_t, gLen_l, gLen_f, gInt_i, gInt_b, gBool_b, gList_t, gList_l, gList_f, gTuple_t, gTuple_l, gSum_t, gSum_l, fIx_t, fIx_l, fIx_f, fSl_t, fSl_l, fSl_f, fRev_t, fRev_l, wipeD_n, wipeD_c, mPN_e, mPS_e, mSl_e, mDct_e, mChain_e, gMax2_ii, fMulO_li, fMulT_e, iR2_e, fEqN_l, mLst_7, mLst_8, mLst_9, mLst_10, mLst_11, mLst_12, mLst_13, mLst_14, mLst_15, mLst_16, mLst_17, mLst_18, mLst_19, mLst_20, mDcx_e, mMeth_e, mMeth0_e, tyM_str, true_and, mLstO_0, mLstO_1, mLstO_2, mLstO_3, mLstO_4, mTup_4, mLstO_5, mLst_5, mTup_5, mLstO_6, mLst_6, mTup_6, gIsi_non_int, gIsi_non_bool, gIsi_non_tuple, gIsi_non_str, gIsi_non_list, fIs_non, gIsi_bl_int, gIsi_bl_bool, gIsi_bl_tuple, gIsi_bl_str, gIsi_bl_list, fIs_bl, gIsi_int_int, gIsi_int_bool, gIsi_int_tuple, gIsi_int_str, gIsi_int_list, fIs_int, gIsi_str_int, gIsi_str_bool, gIsi_str_tuple, gIsi_str_str, gIsi_str_list, fIs_str, gIsi_tup_int, gIsi_tup_bool, gIsi_tup_tuple, gIsi_tup_str, gIsi_tup_list, fIs_tup, gIsi_lst_int, gIsi_lst_bool, gIsi_lst_tuple, gIsi_lst_str, gIsi_lst_list, fIs_lst, gIsi_frz_int, gIsi_frz_bool, gIsi_frz_tuple, gIsi_frz_str, gIsi_frz_list, fIs_frz, gIsi_dct_int, gIsi_dct_bool, gIsi_dct_tuple, gIsi_dct_str, gIsi_dct_list, fIs_dct]
  case hs =>
    rintro x xs δ S ⟨t, R, d2, d3, d4, d5, d6, d7, d8, d9, d10, d11, rfl, D, ht⟩ ih
    rw [List.length_cons] at ht
    simp only [forGo_c, app3 f_law_3_e, mBody_e, startD_e, mNext_e, mSeq_e, mExpr_e, mRet_e, mRetN_e, mIfS_e, mBreak_e, mCont_e, mSet_e, mAsg_e, mPar2_e, mPar3_e, mVar_e, slot_0, slot_s, mC_e, mOp_e, mUn_e, mT_e, mAnd_e, mOr_e, mNot_e, mAndV_e, mOrV_e, mNotV_e, mIf_e, mTup_0, mTup_1, mTup_2, mTup_3, mLst_0, mLst_1, mLst_2, mLst_3, mLst_4, mCall_1, mCall_2, mCallF_1, mCallF_2, mCallF_3, mCallF_4, mFor_e, iR1_e, iZ_e, iE_e, iS_e, mLc_e, mLcO_e, mYes_e, gTg_e, bindT_nm, bindT_1, bindT_2, bindT_3, onEnv_s, onInt_i, onBl_b, onSeq_t, onSeq_l, onSeq_f, onZip_t, onZip_l, onEnum_t, onEnum_l, onT_t, onT_f, onSome_s, fAdd_ii, fAdd_tt, fAdd_ll, fAdd_ss, fSub_ii, fMul_ii, fMul_li, fDiv_ii, fMod_ii, fPow_ii, fNeg_i, fLe_ii, fGt_ii, fGe_ii, fLt_ii, fEq_ii, fEq_ss, fEq_bb, gLen_t, gLen_l, gLen_f, gInt_i, gInt_b, gBool_b, gList_t, gList_l, gList_f, gTuple_t, gTuple_l, gSum_t, gSum_l, fIx_t, fIx_l, fIx_f, fSl_t, fSl_l, fSl_f, fRev_t, fRev_l, wipeD_n, wipeD_c, mPN_e, mPS_e, mSl_e, mDct_e, mChain_e, gMax2_ii, fMulO_li, fMulT_e, iR2_e, fEqN_l, mLst_7, mLst_8, mLst_9, mLst_10, mLst_11, mLst_12, mLst_13, mLst_14, mLst_15, mLst_16, mLst_17, mLst_18, mLst_19, mLst_20, mDcx_e, mMeth_e, mMeth0_e, tyM_str, true_and, mLstO_0, mLstO_1, mLstO_2, mLstO_3, mLstO_4, mTup_4, mLstO_5, mLst_5, mTup_5, mLstO_6, mLst_6, mTup_6, gIsi_non_int, gIsi_non_bool, gIsi_non_tuple, gIsi_non_str, gIsi_non_list, fIs_non, gIsi_bl_int, gIsi_bl_bool, gIsi_bl_tuple, gIsi_bl_str, gIsi_bl_list, fIs_bl, gIsi_int_int, gIsi_int_bool, gIsi_int_tuple, gIsi_int_str, gIsi_int_list, fIs_int, gIsi_str_int, gIsi_str_bool, gIsi_str_tuple, gIsi_str_str, gIsi_str_list, fIs_str, gIsi_tup_int, gIsi_tup_bool, gIsi_tup_tuple, gIsi_tup_str, gIsi_tup_list, fIs_tup, gIsi_lst_int, gIsi_lst_bool, gIsi_lst_tuple, gIsi_lst_str, gIsi_lst_list, fIs_lst, gIsi_frz_int, gIsi_frz_bool, gIsi_frz_tuple, gIsi_frz_str, gIsi_frz_list, fIs_frz, gIsi_dct_int, gIsi_dct_bool, gIsi_dct_tuple, gIsi_dct_str, gIsi_dct_list, fIs_dct, List.map_cons, List.map_nil, List.length_cons, List.length_nil, List.cons_append, List.nil_append, List.set_cons_zero, List.set_cons_succ, List.replicate_zero, List.replicate_succ]
    refine any_market_ok D (by omega) fun S1 g ts R1 t1 D1 p1 l1 hg gm => ?_
    have h4 : ∀ r ∈ ts, GoodT g 4 r := fun r hr => by
      have G := gm.all r hr
      refine ⟨G.l1, G.l2, G.a1, G.a2, Int.le_trans G.s1 ?_, Int.le_trans G.s2 ?_⟩ <;> split <;> omega
    have T : TextM g ts := ⟨gm.g0, hg, by have := gm.len; split at this <;> omega, h4⟩
    have h0 := T.g0
    simp only [app3 r_law_8_e, mBody_e, startD_e, mNext_e, mSeq_e, mExpr_e, mRet_e, mRetN_e, mIfS_e, mBreak_e, mCont_e, mSet_e, mAsg_e, mPar2_e, mPar3_e, mVar_e, slot_0, slot_s, mC_e, mOp_e, mUn_e, mT_e, mAnd_e, mOr_e, mNot_e, mAndV_e, mOrV_e, mNotV_e, mIf_e, mTup_0, mTup_1, mTup_2, mTup_3, mLst_0, mLst_1, mLst_2, mLst_3, mLst_4, mCall_1, mCall_2, mCallF_1, mCallF_2, mCallF_3, mCallF_4, mFor_e, iR1_e, iZ_e, iE_e, iS_e, mLc_e, mLcO_e, mYes_e, gTg_e, bindT_nm, bindT_1, bindT_2, bindT_3, onEnv_s, onInt_i, onBl_b, onSeq_t, onSeq_l, onSeq_f, onZip_t, onZip_l, onEnum_t, onEnum_l, onT_t, onT_f, onSome_s, fAdd_ii, fAdd_tt, fAdd_ll, fAdd_ss, fSub_ii, fMul_ii, fMul_li, fDiv_ii, fMod_ii, fPow_ii, fNeg_i, fLe_ii, fGt_ii, fGe_ii, fLt_ii, fEq_ii, fEq_ss, fEq_bb, gLen_t, gLen_l, gLen_f, gInt_i, gInt_b, gBool_b, gList_t, gList_l, gList_f, gTuple_t, gTuple_l, gSum_t, gSum_l, fIx_t, fIx_l, fIx_f, fSl_t, fSl_l, fSl_f, fRev_t, fRev_l, wipeD_n, wipeD_c, mPN_e, mPS_e, mSl_e, mDct_e, mChain_e, gMax2_ii, fMulO_li, fMulT_e, iR2_e, fEqN_l, mLst_7, mLst_8, mLst_9, mLst_10, mLst_11, mLst_12, mLst_13, mLst_14, mLst_15, mLst_16, mLst_17, mLst_18, mLst_19, mLst_20, mDcx_e, mMeth_e, mMeth0_e, tyM_str, true_and, mLstO_0, mLstO_1, mLstO_2, mLstO_3, mLstO_4, mTup_4, mLstO_5, mLst_5, mTup_5, mLstO_6, mLst_6, mTup_6, gIsi_non_int, gIsi_non_bool, gIsi_non_tuple, gIsi_non_str, gIsi_non_list, fIs_non, gIsi_bl_int, gIsi_bl_bool, gIsi_bl_tuple, gIsi_bl_str, gIsi_bl_list, fIs_bl, gIsi_int_int, gIsi_int_bool, gIsi_int_tuple, gIsi_int_str, gIsi_int_list, fIs_int, gIsi_str_int, gIsi_str_bool, gIsi_str_tuple, gIsi_str_str, gIsi_str_list, fIs_str, gIsi_tup_int, gIsi_tup_bool, gIsi_tup_tuple, gIsi_tup_str, gIsi_tup_list, fIs_tup, gIsi_lst_int, gIsi_lst_bool, gIsi_lst_tuple, gIsi_lst_str, gIsi_lst_list, fIs_lst, gIsi_frz_int, gIsi_frz_bool, gIsi_frz_tuple, gIsi_frz_str, gIsi_frz_list, fIs_frz, gIsi_dct_int, gIsi_dct_bool, gIsi_dct_tuple, gIsi_dct_str, gIsi_dct_list, fIs_dct, List.map_cons, List.map_nil, List.length_cons, List.length_nil, List.cons_append, List.nil_append, List.set_cons_zero, List.set_cons_succ, List.replicate_zero, List.replicate_succ, mV, atI_0]
    refine gStr_ok (by omega) (by omega) ?_
    simp only [mBody_e, startD_e, mNext_e, mSeq_e, mExpr_e, mRet_e, mRetN_e, mIfS_e, mBreak_e, mCont_e, mSet_e, mAsg_e, mPar2_e, mPar3_e, mVar_e, slot_0, slot_s, mC_e, mOp_e, mUn_e, mT_e, mAnd_e, mOr_e, mNot_e, mAndV_e, mOrV_e, mNotV_e, mIf_e, mTup_0, mTup_1, mTup_2, mTup_3, mLst_0, mLst_1, mLst_2, mLst_3, mLst_4, mCall_1, mCall_2, mCallF_1, mCallF_2, mCallF_3, mCallF_4, mFor_e, iR1_e, iZ_e, iE_e, iS_e, mLc_e, mLcO_e, mYes_e, gTg_e, bindT_nm, bindT_1, bindT_2, bindT_3, onEnv_s, onInt_i, onBl_b, onSeq_t, onSeq_l, onSeq_f, onZip_t, onZip_l, onEnum_t, onEnum_l, onT_t, onT_f, onSome_s, fAdd_ii, fAdd_tt, fAdd_ll, fAdd_ss, fSub_ii, fMul_ii, fMul_li, fDiv_ii, fMod_ii, fPow_ii, fNeg_i, fLe_ii, fGt_ii, fGe_ii, fLt_ii, fEq_ii, fEq_ss, fEq_bb, gLen_t, gLen_l, gLen_f, gInt_i, gInt_b, gBool_b, gList_t, gList_l, gList_f, gTuple_t, gTuple_l, gSum_t, gSum_l, fIx_t, fIx_l, fIx_f, fSl_t, fSl_l, fSl_f, fRev_t, fRev_l, wipeD_n, wipeD_c, mPN_e, mPS_e, mSl_e, mDct_e, mChain_e, gMax2_ii, fMulO_li, fMulT_e, iR2_e, fEqN_l, mLst_7, mLst_8, mLst_9, mLst_10, mLst_11, mLst_12, mLst_13, mLst_14, mLst_15, mLst_16, mLst_17, mLst_18, mLst_19, mLst_20, mDcx_e, mMeth_e, mMeth0_e, tyM_str, true_and, mLstO_0, mLstO_1, mLstO_2, mLstO_3, mLstO_4, mTup_4, mLstO_5, mLst_5, mTup_5, mLstO_6, mLst_6, mTup_6, gIsi_non_int, gIsi_non_bool, gIsi_non_tuple, gIsi_non_str, gIsi_non_list, fIs_non, gIsi_bl_int, gIsi_bl_bool, gIsi_bl_tuple, gIsi_bl_str, gIsi_bl_list, fIs_bl, gIsi_int_int, gIsi_int_bool, gIsi_int_tuple, gIsi_int_str, gIsi_int_list, fIs_int, gIsi_str_int, gIsi_str_bool, gIsi_str_tuple, gIsi_str_str, gIsi_str_list, fIs_str, gIsi_tup_int, gIsi_tup_bool, gIsi_tup_tuple, gIsi_tup_str, gIsi_tup_list, fIs_tup, gIsi_lst_int, gIsi_lst_bool, gIsi_lst_tuple, gIsi_lst_str, gIsi_lst_list, fIs_lst, gIsi_frz_int, gIsi_frz_bool, gIsi_frz_tuple, gIsi_frz_str, gIsi_frz_list, fIs_frz, gIsi_dct_int, gIsi_dct_bool, gIsi_dct_tuple, gIsi_dct_str, gIsi_dct_list, fIs_dct, List.map_cons, List.map_nil, List.length_cons, List.length_nil, List.cons_append, List.nil_append, List.set_cons_zero, List.set_cons_succ, List.replicate_zero, List.replicate_succ, app3 r_law_7_e, atI_1]
    refine ⟨by
      have e : (Str.ofString "goods ").length = 6 := by decide +kernel
      rw [e, sI_len (by omega) (by omega)]
      decide, ?_⟩
    have base : S1 ++ [some (DO.lst [DV.str (Str.ofString "goods " ++ sI g)])] = S1 ++ [some (.lst (strsV [headT g]))] := rfl
    rw [base]
    have key : ∀ (ts2 ts1 : List Rl) (d6 d7 d8 d9 d10 d11 : Option DV) (D : EndsD), ts1 ++ ts2 = ts → (∀ d6 d7, D.nx [some (.frz (intsV ns)), some (.ref 1), some x, some (.int g), some (.tup (rsV ts)), some (.ref S1.length), d6, d7, d8, d9, d10, d11, none] (S1 ++ [some (.lst (strsV (headT g :: ts.map lineT)))])) →
        forGo (gTg (.tp [.nm 6, .nm 7])) f_law_1 D (rsV ts2) [some (.frz (intsV ns)), some (.ref 1), some x, some (.int g), some (.tup (rsV ts)), some (.ref S1.length), d6, d7, d8, d9, d10, d11, none] (S1 ++ [some (.lst (strsV (headT g :: ts1.map lineT)))]) := by
      intro ts2
      induction ts2 with
      | nil =>
        intro ts1 d6 d7 d8 d9 d10 d11 D e hnx
        rw [List.append_nil] at e
        subst e
        exact hnx d6 d7
      | cons r ts2 ih2 =>
        intro ts1 d6 d7 d8 d9 d10 d11 D e hnx
        have hr : r ∈ ts := by
          rw [← e]
          simp
        have G := h4 r hr
        have l1 := G.l1
        have l2 := G.l2
        show forGo _ _ _ (.tup [.tup (intsV r.1), .tup (intsV r.2)] :: rsV ts2) _ _
        simp only [forGo_c, app3 f_law_1_e, mBody_e, startD_e, mNext_e, mSeq_e, mExpr_e, mRet_e, mRetN_e, mIfS_e, mBreak_e, mCont_e, mSet_e, mAsg_e, mPar2_e, mPar3_e, mVar_e, slot_0, slot_s, mC_e, mOp_e, mUn_e, mT_e, mAnd_e, mOr_e, mNot_e, mAndV_e, mOrV_e, mNotV_e, mIf_e, mTup_0, mTup_1, mTup_2, mTup_3, mLst_0, mLst_1, mLst_2, mLst_3, mLst_4, mCall_1, mCall_2, mCallF_1, mCallF_2, mCallF_3, mCallF_4, mFor_e, iR1_e, iZ_e, iE_e, iS_e, mLc_e, mLcO_e, mYes_e, gTg_e, bindT_nm, bindT_1, bindT_2, bindT_3, onEnv_s, onInt_i, onBl_b, onSeq_t, onSeq_l, onSeq_f, onZip_t, onZip_l, onEnum_t, onEnum_l, onT_t, onT_f, onSome_s, fAdd_ii, fAdd_tt, fAdd_ll, fAdd_ss, fSub_ii, fMul_ii, fMul_li, fDiv_ii, fMod_ii, fPow_ii, fNeg_i, fLe_ii, fGt_ii, fGe_ii, fLt_ii, fEq_ii, fEq_ss, fEq_bb, gLen_t, gLen_l, gLen_f, gInt_i, gInt_b, gBool_b, gList_t, gList_l, gList_f, gTuple_t, gTuple_l, gSum_t, gSum_l, fIx_t, fIx_l, fIx_f, fSl_t, fSl_l, fSl_f, fRev_t, fRev_l, wipeD_n, wipeD_c, mPN_e, mPS_e, mSl_e, mDct_e, mChain_e, gMax2_ii, fMulO_li, fMulT_e, iR2_e, fEqN_l, mLst_7, mLst_8, mLst_9, mLst_10, mLst_11, mLst_12, mLst_13, mLst_14, mLst_15, mLst_16, mLst_17, mLst_18, mLst_19, mLst_20, mDcx_e, mMeth_e, mMeth0_e, tyM_str, true_and, mLstO_0, mLstO_1, mLstO_2, mLstO_3, mLstO_4, mTup_4, mLstO_5, mLst_5, mTup_5, mLstO_6, mLst_6, mTup_6, gIsi_non_int, gIsi_non_bool, gIsi_non_tuple, gIsi_non_str, gIsi_non_list, fIs_non, gIsi_bl_int, gIsi_bl_bool, gIsi_bl_tuple, gIsi_bl_str, gIsi_bl_list, fIs_bl, gIsi_int_int, gIsi_int_bool, gIsi_int_tuple, gIsi_int_str, gIsi_int_list, fIs_int, gIsi_str_int, gIsi_str_bool, gIsi_str_tuple, gIsi_str_str, gIsi_str_list, fIs_str, gIsi_tup_int, gIsi_tup_bool, gIsi_tup_tuple, gIsi_tup_str, gIsi_tup_list, fIs_tup, gIsi_lst_int, gIsi_lst_bool, gIsi_lst_tuple, gIsi_lst_str, gIsi_lst_list, fIs_lst, gIsi_frz_int, gIsi_frz_bool, gIsi_frz_tuple, gIsi_frz_str, gIsi_frz_list, fIs_frz, gIsi_dct_int, gIsi_dct_bool, gIsi_dct_tuple, gIsi_dct_str, gIsi_dct_list, fIs_dct, List.map_cons, List.map_nil, List.length_cons, List.length_nil, List.cons_append, List.nil_append, List.set_cons_zero, List.set_cons_succ, List.replicate_zero, List.replicate_succ]
        refine ⟨tyM_ref get_last, ?_⟩
        refine strs_lc (by omega) (in9 G.a1) (fun x Qc h0 h1 h => ?_) ?_
        · simp only [mBody_e, startD_e, mNext_e, mSeq_e, mExpr_e, mRet_e, mRetN_e, mIfS_e, mBreak_e, mCont_e, mSet_e, mAsg_e, mPar2_e, mPar3_e, mVar_e, slot_0, slot_s, mC_e, mOp_e, mUn_e, mT_e, mAnd_e, mOr_e, mNot_e, mAndV_e, mOrV_e, mNotV_e, mIf_e, mTup_0, mTup_1, mTup_2, mTup_3, mLst_0, mLst_1, mLst_2, mLst_3, mLst_4, mCall_1, mCall_2, mCallF_1, mCallF_2, mCallF_3, mCallF_4, mFor_e, iR1_e, iZ_e, iE_e, iS_e, mLc_e, mLcO_e, mYes_e, gTg_e, bindT_nm, bindT_1, bindT_2, bindT_3, onEnv_s, onInt_i, onBl_b, onSeq_t, onSeq_l, onSeq_f, onZip_t, onZip_l, onEnum_t, onEnum_l, onT_t, onT_f, onSome_s, fAdd_ii, fAdd_tt, fAdd_ll, fAdd_ss, fSub_ii, fMul_ii, fMul_li, fDiv_ii, fMod_ii, fPow_ii, fNeg_i, fLe_ii, fGt_ii, fGe_ii, fLt_ii, fEq_ii, fEq_ss, fEq_bb, gLen_t, gLen_l, gLen_f, gInt_i, gInt_b, gBool_b, gList_t, gList_l, gList_f, gTuple_t, gTuple_l, gSum_t, gSum_l, fIx_t, fIx_l, fIx_f, fSl_t, fSl_l, fSl_f, fRev_t, fRev_l, wipeD_n, wipeD_c, mPN_e, mPS_e, mSl_e, mDct_e, mChain_e, gMax2_ii, fMulO_li, fMulT_e, iR2_e, fEqN_l, mLst_7, mLst_8, mLst_9, mLst_10, mLst_11, mLst_12, mLst_13, mLst_14, mLst_15, mLst_16, mLst_17, mLst_18, mLst_19, mLst_20, mDcx_e, mMeth_e, mMeth0_e, tyM_str, true_and, mLstO_0, mLstO_1, mLstO_2, mLstO_3, mLstO_4, mTup_4, mLstO_5, mLst_5, mTup_5, mLstO_6, mLst_6, mTup_6, gIsi_non_int, gIsi_non_bool, gIsi_non_tuple, gIsi_non_str, gIsi_non_list, fIs_non, gIsi_bl_int, gIsi_bl_bool, gIsi_bl_tuple, gIsi_bl_str, gIsi_bl_list, fIs_bl, gIsi_int_int, gIsi_int_bool, gIsi_int_tuple, gIsi_int_str, gIsi_int_list, fIs_int, gIsi_str_int, gIsi_str_bool, gIsi_str_tuple, gIsi_str_str, gIsi_str_list, fIs_str, gIsi_tup_int, gIsi_tup_bool, gIsi_tup_tuple, gIsi_tup_str, gIsi_tup_list, fIs_tup, gIsi_lst_int, gIsi_lst_bool, gIsi_lst_tuple, gIsi_lst_str, gIsi_lst_list, fIs_lst, gIsi_frz_int, gIsi_frz_bool, gIsi_frz_tuple, gIsi_frz_str, gIsi_frz_list, fIs_frz, gIsi_dct_int, gIsi_dct_bool, gIsi_dct_tuple, gIsi_dct_str, gIsi_dct_list, fIs_dct, List.map_cons, List.map_nil, List.length_cons, List.length_nil, List.cons_append, List.nil_append, List.set_cons_zero, List.set_cons_succ, List.replicate_zero, List.replicate_succ]
          exact gStr_ok h0 h1 h
        try simp only [mBody_e, startD_e, mNext_e, mSeq_e, mExpr_e, mRet_e, mRetN_e, mIfS_e, mBreak_e, mCont_e, mSet_e, mAsg_e, mPar2_e, mPar3_e, mVar_e, slot_0, slot_s, mC_e, mOp_e, mUn_e, mT_e, mAnd_e, mOr_e, mNot_e, mAndV_e, mOrV_e, mNotV_e, mIf_e, mTup_0, mTup_1, mTup_2, mTup_3, mLst_0, mLst_1, mLst_2, mLst_3, mLst_4, mCall_1, mCall_2, mCallF_1, mCallF_2, mCallF_3, mCallF_4, mFor_e, iR1_e, iZ_e, iE_e, iS_e, mLc_e, mLcO_e, mYes_e, gTg_e, bindT_nm, bindT_1, bindT_2, bindT_3, onEnv_s, onInt_i, onBl_b, onSeq_t, onSeq_l, onSeq_f, onZip_t, onZip_l, onEnum_t, onEnum_l, onT_t, onT_f, onSome_s, fAdd_ii, fAdd_tt, fAdd_ll, fAdd_ss, fSub_ii, fMul_ii, fMul_li, fDiv_ii, fMod_ii, fPow_ii, fNeg_i, fLe_ii, fGt_ii, fGe_ii, fLt_ii, fEq_ii, fEq_ss, fEq_bb, gLen_t, gLen_l, gLen_f, gInt_i, gInt_b, gBool_b, gList_t, gList_l, gList_f, gTuple_t, gTuple_l, gSum_t, gSum_l, fIx_t, fIx_l, fIx_f, fSl_t, fSl_l, fSl_f, fRev_t, fRev_l, wipeD_n, wipeD_c, mPN_e, mPS_e, mSl_e, mDct_e, mChain_e, gMax2_ii, fMulO_li, fMulT_e, iR2_e, fEqN_l, mLst_7, mLst_8, mLst_9, mLst_10, mLst_11, mLst_12, mLst_13, mLst_14, mLst_15, mLst_16, mLst_17, mLst_18, mLst_19, mLst_20, mDcx_e, mMeth_e, mMeth0_e, tyM_str, true_and, mLstO_0, mLstO_1, mLstO_2, mLstO_3, mLstO_4, mTup_4, mLstO_5, mLst_5, mTup_5, mLstO_6, mLst_6, mTup_6, gIsi_non_int, gIsi_non_bool, gIsi_non_tuple, gIsi_non_str, gIsi_non_list, fIs_non, gIsi_bl_int, gIsi_bl_bool, gIsi_bl_tuple, gIsi_bl_str, gIsi_bl_list, fIs_bl, gIsi_int_int, gIsi_int_bool, gIsi_int_tuple, gIsi_int_str, gIsi_int_list, fIs_int, gIsi_str_int, gIsi_str_bool, gIsi_str_tuple, gIsi_str_str, gIsi_str_list, fIs_str, gIsi_tup_int, gIsi_tup_bool, gIsi_tup_tuple, gIsi_tup_str, gIsi_tup_list, fIs_tup, gIsi_lst_int, gIsi_lst_bool, gIsi_lst_tuple, gIsi_lst_str, gIsi_lst_list, fIs_lst, gIsi_frz_int, gIsi_frz_bool, gIsi_frz_tuple, gIsi_frz_str, gIsi_frz_list, fIs_frz, gIsi_dct_int, gIsi_dct_bool, gIsi_dct_tuple, gIsi_dct_str, gIsi_dct_list, fIs_dct, List.map_cons, List.map_nil, List.length_cons, List.length_nil, List.cons_append, List.nil_append, List.set_cons_zero, List.set_cons_succ, List.replicate_zero, List.replicate_succ]
        refine ⟨by simp [strsV, sA]; omega, strs_lc (by omega) (in9 G.a2) (fun x Qc h0 h1 h => ?_) ?_⟩
        · simp only [mBody_e, startD_e, mNext_e, mSeq_e, mExpr_e, mRet_e, mRetN_e, mIfS_e, mBreak_e, mCont_e, mSet_e, mAsg_e, mPar2_e, mPar3_e, mVar_e, slot_0, slot_s, mC_e, mOp_e, mUn_e, mT_e, mAnd_e, mOr_e, mNot_e, mAndV_e, mOrV_e, mNotV_e, mIf_e, mTup_0, mTup_1, mTup_2, mTup_3, mLst_0, mLst_1, mLst_2, mLst_3, mLst_4, mCall_1, mCall_2, mCallF_1, mCallF_2, mCallF_3, mCallF_4, mFor_e, iR1_e, iZ_e, iE_e, iS_e, mLc_e, mLcO_e, mYes_e, gTg_e, bindT_nm, bindT_1, bindT_2, bindT_3, onEnv_s, onInt_i, onBl_b, onSeq_t, onSeq_l, onSeq_f, onZip_t, onZip_l, onEnum_t, onEnum_l, onT_t, onT_f, onSome_s, fAdd_ii, fAdd_tt, fAdd_ll, fAdd_ss, fSub_ii, fMul_ii, fMul_li, fDiv_ii, fMod_ii, fPow_ii, fNeg_i, fLe_ii, fGt_ii, fGe_ii, fLt_ii, fEq_ii, fEq_ss, fEq_bb, gLen_t, gLen_l, gLen_f, gInt_i, gInt_b, gBool_b, gList_t, gList_l, gList_f, gTuple_t, gTuple_l, gSum_t, gSum_l, fIx_t, fIx_l, fIx_f, fSl_t, fSl_l, fSl_f, fRev_t, fRev_l, wipeD_n, wipeD_c, mPN_e, mPS_e, mSl_e, mDct_e, mChain_e, gMax2_ii, fMulO_li, fMulT_e, iR2_e, fEqN_l, mLst_7, mLst_8, mLst_9, mLst_10, mLst_11, mLst_12, mLst_13, mLst_14, mLst_15, mLst_16, mLst_17, mLst_18, mLst_19, mLst_20, mDcx_e, mMeth_e, mMeth0_e, tyM_str, true_and, mLstO_0, mLstO_1, mLstO_2, mLstO_3, mLstO_4, mTup_4, mLstO_5, mLst_5, mTup_5, mLstO_6, mLst_6, mTup_6, gIsi_non_int, gIsi_non_bool, gIsi_non_tuple, gIsi_non_str, gIsi_non_list, fIs_non, gIsi_bl_int, gIsi_bl_bool, gIsi_bl_tuple, gIsi_bl_str, gIsi_bl_list, fIs_bl, gIsi_int_int, gIsi_int_bool, gIsi_int_tuple, gIsi_int_str, gIsi_int_list, fIs_int, gIsi_str_int, gIsi_str_bool, gIsi_str_tuple, gIsi_str_str, gIsi_str_list, fIs_str, gIsi_tup_int, gIsi_tup_bool, gIsi_tup_tuple, gIsi_tup_str, gIsi_tup_list, fIs_tup, gIsi_lst_int, gIsi_lst_bool, gIsi_lst_tuple, gIsi_lst_str, gIsi_lst_list, fIs_lst, gIsi_frz_int, gIsi_frz_bool, gIsi_frz_tuple, gIsi_frz_str, gIsi_frz_list, fIs_frz, gIsi_dct_int, gIsi_dct_bool, gIsi_dct_tuple, gIsi_dct_str, gIsi_dct_list, fIs_dct, List.map_cons, List.map_nil, List.length_cons, List.length_nil, List.cons_append, List.nil_append, List.set_cons_zero, List.set_cons_succ, List.replicate_zero, List.replicate_succ]
          exact gStr_ok h0 h1 h
        have ew : strsV (sA r.1) ++ [DV.str (Str.ofString "=")] ++ strsV (sA r.2) = strsV (wordsT r) := by
          unfold wordsT strsV
          rw [List.map_append, List.map_append]
          rfl
        try simp only [mBody_e, startD_e, mNext_e, mSeq_e, mExpr_e, mRet_e, mRetN_e, mIfS_e, mBreak_e, mCont_e, mSet_e, mAsg_e, mPar2_e, mPar3_e, mVar_e, slot_0, slot_s, mC_e, mOp_e, mUn_e, mT_e, mAnd_e, mOr_e, mNot_e, mAndV_e, mOrV_e, mNotV_e, mIf_e, mTup_0, mTup_1, mTup_2, mTup_3, mLst_0, mLst_1, mLst_2, mLst_3, mLst_4, mCall_1, mCall_2, mCallF_1, mCallF_2, mCallF_3, mCallF_4, mFor_e, iR1_e, iZ_e, iE_e, iS_e, mLc_e, mLcO_e, mYes_e, gTg_e, bindT_nm, bindT_1, bindT_2, bindT_3, onEnv_s, onInt_i, onBl_b, onSeq_t, onSeq_l, onSeq_f, onZip_t, onZip_l, onEnum_t, onEnum_l, onT_t, onT_f, onSome_s, fAdd_ii, fAdd_tt, fAdd_ll, fAdd_ss, fSub_ii, fMul_ii, fMul_li, fDiv_ii, fMod_ii, fPow_ii, fNeg_i, fLe_ii, fGt_ii, fGe_ii, fLt_ii, fEq_ii, fEq_ss, fEq_bb, gLen_t, gLen_l, gLen_f, gInt_i, gInt_b, gBool_b, gList_t, gList_l, gList_f, gTuple_t, gTuple_l, gSum_t, gSum_l, fIx_t, fIx_l, fIx_f, fSl_t, fSl_l, fSl_f, fRev_t, fRev_l, wipeD_n, wipeD_c, mPN_e, mPS_e, mSl_e, mDct_e, mChain_e, gMax2_ii, fMulO_li, fMulT_e, iR2_e, fEqN_l, mLst_7, mLst_8, mLst_9, mLst_10, mLst_11, mLst_12, mLst_13, mLst_14, mLst_15, mLst_16, mLst_17, mLst_18, mLst_19, mLst_20, mDcx_e, mMeth_e, mMeth0_e, tyM_str, true_and, mLstO_0, mLstO_1, mLstO_2, mLstO_3, mLstO_4, mTup_4, mLstO_5, mLst_5, mTup_5, mLstO_6, mLst_6, mTup_6, gIsi_non_int, gIsi_non_bool, gIsi_non_tuple, gIsi_non_str, gIsi_non_list, fIs_non, gIsi_bl_int, gIsi_bl_bool, gIsi_bl_tuple, gIsi_bl_str, gIsi_bl_list, fIs_bl, gIsi_int_int, gIsi_int_bool, gIsi_int_tuple, gIsi_int_str, gIsi_int_list, fIs_int, gIsi_str_int, gIsi_str_bool, gIsi_str_tuple, gIsi_str_str, gIsi_str_list, fIs_str, gIsi_tup_int, gIsi_tup_bool, gIsi_tup_tuple, gIsi_tup_str, gIsi_tup_list, fIs_tup, gIsi_lst_int, gIsi_lst_bool, gIsi_lst_tuple, gIsi_lst_str, gIsi_lst_list, fIs_lst, gIsi_frz_int, gIsi_frz_bool, gIsi_frz_tuple, gIsi_frz_str, gIsi_frz_list, fIs_frz, gIsi_dct_int, gIsi_dct_bool, gIsi_dct_tuple, gIsi_dct_str, gIsi_dct_list, fIs_dct, List.map_cons, List.map_nil, List.length_cons, List.length_nil, List.cons_append, List.nil_append, List.set_cons_zero, List.set_cons_succ, List.replicate_zero, List.replicate_succ]
        rw [ew]
        refine ⟨by simp [strsV, sA]; omega, ?_⟩
        have n1 : r.1 ≠ [] := fun z => by
          rw [z] at l1
          simp at l1
          omega
        have n2 : r.2 ≠ [] := fun z => by
          rw [z] at l2
          simp at l2
          omega
        have w1 : ∀ p ∈ wordsT r, p.length = 1 := fun p hp => by
          rcases List.mem_append.mp (show p ∈ (sA r.1 ++ [Str.ofString "="]) ++ sA r.2 from hp) with hp | hp
          · rcases List.mem_append.mp hp with hp | hp
            · exact sA_len1 (in9 G.a1) p hp
            · rw [List.mem_singleton.mp hp]
              decide +kernel
          · exact sA_len1 (in9 G.a2) p hp
        refine ⟨_, _, wordsT r, rfl, rfl, rfl, ?_, ?_⟩
        · rw [sum_len1 w1, sp_len]
          simp [wordsT, sA]
          omega
        rw [← line_join n1 n2]
        refine append_ok get_last ?_ ?_
        · have := T.len
          have : ts1.length + (r :: ts2).length = ts.length := by rw [← e, List.length_append]
          simp [strsV]
          omega
        · rw [set_last]
          have e4 : strsV (headT g :: ts1.map lineT) ++ [DV.str (lineT r)] = strsV (headT g :: (ts1 ++ [r]).map lineT) := by
            unfold strsV
            simp
          rw [e4]
          exact ih2 (ts1 ++ [r]) _ _ _ _ _ _ D (by rw [List.append_assoc]; exact e) hnx
    refine key ts [] _ _ _ _ _ _ _ rfl fun d6 d7 => ?_
    simp only [app3 r_law_6_e, mBody_e, startD_e, mNext_e, mSeq_e, mExpr_e, mRet_e, mRetN_e, mIfS_e, mBreak_e, mCont_e, mSet_e, mAsg_e, mPar2_e, mPar3_e, mVar_e, slot_0, slot_s, mC_e, mOp_e, mUn_e, mT_e, mAnd_e, mOr_e, mNot_e, mAndV_e, mOrV_e, mNotV_e, mIf_e, mTup_0, mTup_1, mTup_2, mTup_3, mLst_0, mLst_1, mLst_2, mLst_3, mLst_4, mCall_1, mCall_2, mCallF_1, mCallF_2, mCallF_3, mCallF_4, mFor_e, iR1_e, iZ_e, iE_e, iS_e, mLc_e, mLcO_e, mYes_e, gTg_e, bindT_nm, bindT_1, bindT_2, bindT_3, onEnv_s, onInt_i, onBl_b, onSeq_t, onSeq_l, onSeq_f, onZip_t, onZip_l, onEnum_t, onEnum_l, onT_t, onT_f, onSome_s, fAdd_ii, fAdd_tt, fAdd_ll, fAdd_ss, fSub_ii, fMul_ii, fMul_li, fDiv_ii, fMod_ii, fPow_ii, fNeg_i, fLe_ii, fGt_ii, fGe_ii, fLt_ii, fEq_ii, fEq_ss, fEq_bb, gLen_t, gLen_l, gLen_f, gInt_i, gInt_b, gBool_b, gList_t, gList_l, gList_f, gTuple_t, gTuple_l, gSum_t, gSum_l, fIx_t, fIx_l, fIx_f, fSl_t, fSl_l, fSl_f, fRev_t, fRev_l, wipeD_n, wipeD_c, mPN_e, mPS_e, mSl_e, mDct_e, mChain_e, gMax2_ii, fMulO_li, fMulT_e, iR2_e, fEqN_l, mLst_7, mLst_8, mLst_9, mLst_10, mLst_11, mLst_12, mLst_13, mLst_14, mLst_15, mLst_16, mLst_17, mLst_18, mLst_19, mLst_20, mDcx_e, mMeth_e, mMeth0_e, tyM_str, true_and, mLstO_0, mLstO_1, mLstO_2, mLstO_3, mLstO_4, mTup_4, mLstO_5, mLst_5, mTup_5, mLstO_6, mLst_6, mTup_6, gIsi_non_int, gIsi_non_bool, gIsi_non_tuple, gIsi_non_str, gIsi_non_list, fIs_non, gIsi_bl_int, gIsi_bl_bool, gIsi_bl_tuple, gIsi_bl_str, gIsi_bl_list, fIs_bl, gIsi_int_int, gIsi_int_bool, gIsi_int_tuple, gIsi_int_str, gIsi_int_list, fIs_int, gIsi_str_int, gIsi_str_bool, gIsi_str_tuple, gIsi_str_str, gIsi_str_list, fIs_str, gIsi_tup_int, gIsi_tup_bool, gIsi_tup_tuple, gIsi_tup_str, gIsi_tup_list, fIs_tup, gIsi_lst_int, gIsi_lst_bool, gIsi_lst_tuple, gIsi_lst_str, gIsi_lst_list, fIs_lst, gIsi_frz_int, gIsi_frz_bool, gIsi_frz_tuple, gIsi_frz_str, gIsi_frz_list, fIs_frz, gIsi_dct_int, gIsi_dct_bool, gIsi_dct_tuple, gIsi_dct_str, gIsi_dct_list, fIs_dct, List.map_cons, List.map_nil, List.length_cons, List.length_nil, List.cons_append, List.nil_append, List.set_cons_zero, List.set_cons_succ, List.replicate_zero, List.replicate_succ]
    refine ⟨_, _, _, rfl, rfl, seqD_ref get_last, T.sum, ?_⟩
    have eT : Txt.join (Str.ofString "\n") (headT g :: ts.map lineT) = mText g ts := rfl
    rw [eT]
    have tx := text_tx T
    have D2 := dk_snoc (d := .lst (strsV (headT g :: ts.map lineT))) D1
    have hlen : S1.length = R1.length + 2 := dk_len D1
    generalize hS : S1 ++ [some (DO.lst (strsV (headT g :: ts.map lineT)))] = S2 at D2
    clear hS
    generalize hR2 : R1 ++ [some (DO.lst (strsV (headT g :: ts.map lineT)))] = R2 at D2
    have hp2 : R1 ++ [some (DO.lst (strsV (headT g :: ts.map lineT)))] <+: R2 := by
      rw [hR2]
      exact List.prefix_refl _
    simp only [app3 r_law_5_e, mBody_e, startD_e, mNext_e, mSeq_e, mExpr_e, mRet_e, mRetN_e, mIfS_e, mBreak_e, mCont_e, mSet_e, mAsg_e, mPar2_e, mPar3_e, mVar_e, slot_0, slot_s, mC_e, mOp_e, mUn_e, mT_e, mAnd_e, mOr_e, mNot_e, mAndV_e, mOrV_e, mNotV_e, mIf_e, mTup_0, mTup_1, mTup_2, mTup_3, mLst_0, mLst_1, mLst_2, mLst_3, mLst_4, mCall_1, mCall_2, mCallF_1, mCallF_2, mCallF_3, mCallF_4, mFor_e, iR1_e, iZ_e, iE_e, iS_e, mLc_e, mLcO_e, mYes_e, gTg_e, bindT_nm, bindT_1, bindT_2, bindT_3, onEnv_s, onInt_i, onBl_b, onSeq_t, onSeq_l, onSeq_f, onZip_t, onZip_l, onEnum_t, onEnum_l, onT_t, onT_f, onSome_s, fAdd_ii, fAdd_tt, fAdd_ll, fAdd_ss, fSub_ii, fMul_ii, fMul_li, fDiv_ii, fMod_ii, fPow_ii, fNeg_i, fLe_ii, fGt_ii, fGe_ii, fLt_ii, fEq_ii, fEq_ss, fEq_bb, gLen_t, gLen_l, gLen_f, gInt_i, gInt_b, gBool_b, gList_t, gList_l, gList_f, gTuple_t, gTuple_l, gSum_t, gSum_l, fIx_t, fIx_l, fIx_f, fSl_t, fSl_l, fSl_f, fRev_t, fRev_l, wipeD_n, wipeD_c, mPN_e, mPS_e, mSl_e, mDct_e, mChain_e, gMax2_ii, fMulO_li, fMulT_e, iR2_e, fEqN_l, mLst_7, mLst_8, mLst_9, mLst_10, mLst_11, mLst_12, mLst_13, mLst_14, mLst_15, mLst_16, mLst_17, mLst_18, mLst_19, mLst_20, mDcx_e, mMeth_e, mMeth0_e, tyM_str, true_and, mLstO_0, mLstO_1, mLstO_2, mLstO_3, mLstO_4, mTup_4, mLstO_5, mLst_5, mTup_5, mLstO_6, mLst_6, mTup_6, gIsi_non_int, gIsi_non_bool, gIsi_non_tuple, gIsi_non_str, gIsi_non_list, fIs_non, gIsi_bl_int, gIsi_bl_bool, gIsi_bl_tuple, gIsi_bl_str, gIsi_bl_list, fIs_bl, gIsi_int_int, gIsi_int_bool, gIsi_int_tuple, gIsi_int_str, gIsi_int_list, fIs_int, gIsi_str_int, gIsi_str_bool, gIsi_str_tuple, gIsi_str_str, gIsi_str_list, fIs_str, gIsi_tup_int, gIsi_tup_bool, gIsi_tup_tuple, gIsi_tup_str, gIsi_tup_list, fIs_tup, gIsi_lst_int, gIsi_lst_bool, gIsi_lst_tuple, gIsi_lst_str, gIsi_lst_list, fIs_lst, gIsi_frz_int, gIsi_frz_bool, gIsi_frz_tuple, gIsi_frz_str, gIsi_frz_list, fIs_frz, gIsi_dct_int, gIsi_dct_bool, gIsi_dct_tuple, gIsi_dct_str, gIsi_dct_list, fIs_dct, List.map_cons, List.map_nil, List.length_cons, List.length_nil, List.cons_append, List.nil_append, List.set_cons_zero, List.set_cons_succ, List.replicate_zero, List.replicate_succ, app3 r_law_4_e]
    refine ⟨by decide, by decide, ?_⟩
    have key2 : ∀ (j k t : Nat) (y : Str) (R2 S2 : Store) (d10 : Option DV) (D : EndsD), k + j = 6 → Tx (if k ≤ 4 then 4100 else if k = 5 then 16500 else 66100) y → R1 ++ [some (DO.lst (strsV (headT g :: ts.map lineT)))] <+: R2 → Dk t R2 S2 → t + 5 * j ≤ t1 + 30 →
        (∀ y d10 t R2 S2, Dk t R2 S2 → t ≤ t1 + 30 → R1 ++ [some (DO.lst (strsV (headT g :: ts.map lineT)))] <+: R2 → D.nx [some (.frz (intsV ns)), some (.ref 1), some x, some (.int g), some (.tup (rsV ts)), some (.ref S1.length), d6, d7, some (.str (mText g ts)), some (.str y), d10, d11, none] S2) →
        forGo (gTg (.nm 10)) f_law_2 D (rngD (k : Nat) j) [some (.frz (intsV ns)), some (.ref 1), some x, some (.int g), some (.tup (rsV ts)), some (.ref S1.length), d6, d7, some (.str (mText g ts)), some (.str y), d10, d11, none] S2 := by
      intro j
      induction j with
      | zero =>
        intro k t y R2 S2 d10 D e hy hp D2 ht2 hnx
        exact hnx y d10 t R2 S2 D2 (by omega) hp
      | succ j ihj =>
        intro k t y R2 S2 d10 D e hy hp D2 ht2 hnx
        rw [rngD_cons]
        have ek : (k : Int) + 1 = ((k + 1 : Nat) : Int) := by omega
        rw [ek]
        simp only [forGo_c, app3 f_law_2_e, mBody_e, startD_e, mNext_e, mSeq_e, mExpr_e, mRet_e, mRetN_e, mIfS_e, mBreak_e, mCont_e, mSet_e, mAsg_e, mPar2_e, mPar3_e, mVar_e, slot_0, slot_s, mC_e, mOp_e, mUn_e, mT_e, mAnd_e, mOr_e, mNot_e, mAndV_e, mOrV_e, mNotV_e, mIf_e, mTup_0, mTup_1, mTup_2, mTup_3, mLst_0, mLst_1, mLst_2, mLst_3, mLst_4, mCall_1, mCall_2, mCallF_1, mCallF_2, mCallF_3, mCallF_4, mFor_e, iR1_e, iZ_e, iE_e, iS_e, mLc_e, mLcO_e, mYes_e, gTg_e, bindT_nm, bindT_1, bindT_2, bindT_3, onEnv_s, onInt_i, onBl_b, onSeq_t, onSeq_l, onSeq_f, onZip_t, onZip_l, onEnum_t, onEnum_l, onT_t, onT_f, onSome_s, fAdd_ii, fAdd_tt, fAdd_ll, fAdd_ss, fSub_ii, fMul_ii, fMul_li, fDiv_ii, fMod_ii, fPow_ii, fNeg_i, fLe_ii, fGt_ii, fGe_ii, fLt_ii, fEq_ii, fEq_ss, fEq_bb, gLen_t, gLen_l, gLen_f, gInt_i, gInt_b, gBool_b, gList_t, gList_l, gList_f, gTuple_t, gTuple_l, gSum_t, gSum_l, fIx_t, fIx_l, fIx_f, fSl_t, fSl_l, fSl_f, fRev_t, fRev_l, wipeD_n, wipeD_c, mPN_e, mPS_e, mSl_e, mDct_e, mChain_e, gMax2_ii, fMulO_li, fMulT_e, iR2_e, fEqN_l, mLst_7, mLst_8, mLst_9, mLst_10, mLst_11, mLst_12, mLst_13, mLst_14, mLst_15, mLst_16, mLst_17, mLst_18, mLst_19, mLst_20, mDcx_e, mMeth_e, mMeth0_e, tyM_str, true_and, mLstO_0, mLstO_1, mLstO_2, mLstO_3, mLstO_4, mTup_4, mLstO_5, mLst_5, mTup_5, mLstO_6, mLst_6, mTup_6, gIsi_non_int, gIsi_non_bool, gIsi_non_tuple, gIsi_non_str, gIsi_non_list, fIs_non, gIsi_bl_int, gIsi_bl_bool, gIsi_bl_tuple, gIsi_bl_str, gIsi_bl_list, fIs_bl, gIsi_int_int, gIsi_int_bool, gIsi_int_tuple, gIsi_int_str, gIsi_int_list, fIs_int, gIsi_str_int, gIsi_str_bool, gIsi_str_tuple, gIsi_str_str, gIsi_str_list, fIs_str, gIsi_tup_int, gIsi_tup_bool, gIsi_tup_tuple, gIsi_tup_str, gIsi_tup_list, fIs_tup, gIsi_lst_int, gIsi_lst_bool, gIsi_lst_tuple, gIsi_lst_str, gIsi_lst_list, fIs_lst, gIsi_frz_int, gIsi_frz_bool, gIsi_frz_tuple, gIsi_frz_str, gIsi_frz_list, fIs_frz, gIsi_dct_int, gIsi_dct_bool, gIsi_dct_tuple, gIsi_dct_str, gIsi_dct_list, fIs_dct, List.map_cons, List.map_nil, List.length_cons, List.length_nil, List.cons_append, List.nil_append, List.set_cons_zero, List.set_cons_succ, List.replicate_zero, List.replicate_succ]
        have fin : ∀ (E : MX) z n, Tx n z → n ≤ 16500 → 4 * n + 100 ≤ (if k + 1 ≤ 4 then 4100 else if k + 1 = 5 then 16500 else 66100) → m__law_other [.ref 1, .str z] S2 (fun d S => r_law_1 { D with nx := forGo (gTg (.nm 10)) f_law_2 D (rngD (k + 1 : Nat) j), ct := forGo (gTg (.nm 10)) f_law_2 D (rngD (k + 1 : Nat) j), bk := D.nx } [some (.frz (intsV ns)), some (.ref 1), some x, some (.int g), some (.tup (rsV ts)), some (.ref S1.length), d6, d7, some (.str (mText g ts)), some d, some (.int (k : Int)), d11, none] S) E := fun E z n hz hn16 hle => by
          refine other_ok D2 (by omega) (by omega) hz fun S3 y3 t3 D3 hd3 hy3 => ?_
          have hy66 : Tx 1000000 y3 := hy3.mono (by omega)
          simp only [app3 r_law_1_e, mBody_e, startD_e, mNext_e, mSeq_e, mExpr_e, mRet_e, mRetN_e, mIfS_e, mBreak_e, mCont_e, mSet_e, mAsg_e, mPar2_e, mPar3_e, mVar_e, slot_0, slot_s, mC_e, mOp_e, mUn_e, mT_e, mAnd_e, mOr_e, mNot_e, mAndV_e, mOrV_e, mNotV_e, mIf_e, mTup_0, mTup_1, mTup_2, mTup_3, mLst_0, mLst_1, mLst_2, mLst_3, mLst_4, mCall_1, mCall_2, mCallF_1, mCallF_2, mCallF_3, mCallF_4, mFor_e, iR1_e, iZ_e, iE_e, iS_e, mLc_e, mLcO_e, mYes_e, gTg_e, bindT_nm, bindT_1, bindT_2, bindT_3, onEnv_s, onInt_i, onBl_b, onSeq_t, onSeq_l, onSeq_f, onZip_t, onZip_l, onEnum_t, onEnum_l, onT_t, onT_f, onSome_s, fAdd_ii, fAdd_tt, fAdd_ll, fAdd_ss, fSub_ii, fMul_ii, fMul_li, fDiv_ii, fMod_ii, fPow_ii, fNeg_i, fLe_ii, fGt_ii, fGe_ii, fLt_ii, fEq_ii, fEq_ss, fEq_bb, gLen_t, gLen_l, gLen_f, gInt_i, gInt_b, gBool_b, gList_t, gList_l, gList_f, gTuple_t, gTuple_l, gSum_t, gSum_l, fIx_t, fIx_l, fIx_f, fSl_t, fSl_l, fSl_f, fRev_t, fRev_l, wipeD_n, wipeD_c, mPN_e, mPS_e, mSl_e, mDct_e, mChain_e, gMax2_ii, fMulO_li, fMulT_e, iR2_e, fEqN_l, mLst_7, mLst_8, mLst_9, mLst_10, mLst_11, mLst_12, mLst_13, mLst_14, mLst_15, mLst_16, mLst_17, mLst_18, mLst_19, mLst_20, mDcx_e, mMeth_e, mMeth0_e, tyM_str, true_and, mLstO_0, mLstO_1, mLstO_2, mLstO_3, mLstO_4, mTup_4, mLstO_5, mLst_5, mTup_5, mLstO_6, mLst_6, mTup_6, gIsi_non_int, gIsi_non_bool, gIsi_non_tuple, gIsi_non_str, gIsi_non_list, fIs_non, gIsi_bl_int, gIsi_bl_bool, gIsi_bl_tuple, gIsi_bl_str, gIsi_bl_list, fIs_bl, gIsi_int_int, gIsi_int_bool, gIsi_int_tuple, gIsi_int_str, gIsi_int_list, fIs_int, gIsi_str_int, gIsi_str_bool, gIsi_str_tuple, gIsi_str_str, gIsi_str_list, fIs_str, gIsi_tup_int, gIsi_tup_bool, gIsi_tup_tuple, gIsi_tup_str, gIsi_tup_list, fIs_tup, gIsi_lst_int, gIsi_lst_bool, gIsi_lst_tuple, gIsi_lst_str, gIsi_lst_list, fIs_lst, gIsi_frz_int, gIsi_frz_bool, gIsi_frz_tuple, gIsi_frz_str, gIsi_frz_list, fIs_frz, gIsi_dct_int, gIsi_dct_bool, gIsi_dct_tuple, gIsi_dct_str, gIsi_dct_list, fIs_dct]
          refine found_ok hy66.len fun ds1 => ?_
          refine gRepr_d (toP_found _) (found_repr (readS_ok y3)) ?_
          refine due_ok hy66.len hy66.sg fun ds2 => ?_
          refine gRepr_d (toP_found _) (found_repr (readS_ok y3)) ?_
          simp only [mBody_e, startD_e, mNext_e, mSeq_e, mExpr_e, mRet_e, mRetN_e, mIfS_e, mBreak_e, mCont_e, mSet_e, mAsg_e, mPar2_e, mPar3_e, mVar_e, slot_0, slot_s, mC_e, mOp_e, mUn_e, mT_e, mAnd_e, mOr_e, mNot_e, mAndV_e, mOrV_e, mNotV_e, mIf_e, mTup_0, mTup_1, mTup_2, mTup_3, mLst_0, mLst_1, mLst_2, mLst_3, mLst_4, mCall_1, mCall_2, mCallF_1, mCallF_2, mCallF_3, mCallF_4, mFor_e, iR1_e, iZ_e, iE_e, iS_e, mLc_e, mLcO_e, mYes_e, gTg_e, bindT_nm, bindT_1, bindT_2, bindT_3, onEnv_s, onInt_i, onBl_b, onSeq_t, onSeq_l, onSeq_f, onZip_t, onZip_l, onEnum_t, onEnum_l, onT_t, onT_f, onSome_s, fAdd_ii, fAdd_tt, fAdd_ll, fAdd_ss, fSub_ii, fMul_ii, fMul_li, fDiv_ii, fMod_ii, fPow_ii, fNeg_i, fLe_ii, fGt_ii, fGe_ii, fLt_ii, fEq_ii, fEq_ss, fEq_bb, gLen_t, gLen_l, gLen_f, gInt_i, gInt_b, gBool_b, gList_t, gList_l, gList_f, gTuple_t, gTuple_l, gSum_t, gSum_l, fIx_t, fIx_l, fIx_f, fSl_t, fSl_l, fSl_f, fRev_t, fRev_l, wipeD_n, wipeD_c, mPN_e, mPS_e, mSl_e, mDct_e, mChain_e, gMax2_ii, fMulO_li, fMulT_e, iR2_e, fEqN_l, mLst_7, mLst_8, mLst_9, mLst_10, mLst_11, mLst_12, mLst_13, mLst_14, mLst_15, mLst_16, mLst_17, mLst_18, mLst_19, mLst_20, mDcx_e, mMeth_e, mMeth0_e, tyM_str, true_and, mLstO_0, mLstO_1, mLstO_2, mLstO_3, mLstO_4, mTup_4, mLstO_5, mLst_5, mTup_5, mLstO_6, mLst_6, mTup_6, gIsi_non_int, gIsi_non_bool, gIsi_non_tuple, gIsi_non_str, gIsi_non_list, fIs_non, gIsi_bl_int, gIsi_bl_bool, gIsi_bl_tuple, gIsi_bl_str, gIsi_bl_list, fIs_bl, gIsi_int_int, gIsi_int_bool, gIsi_int_tuple, gIsi_int_str, gIsi_int_list, fIs_int, gIsi_str_int, gIsi_str_bool, gIsi_str_tuple, gIsi_str_str, gIsi_str_list, fIs_str, gIsi_tup_int, gIsi_tup_bool, gIsi_tup_tuple, gIsi_tup_str, gIsi_tup_list, fIs_tup, gIsi_lst_int, gIsi_lst_bool, gIsi_lst_tuple, gIsi_lst_str, gIsi_lst_list, fIs_lst, gIsi_frz_int, gIsi_frz_bool, gIsi_frz_tuple, gIsi_frz_str, gIsi_frz_list, fIs_frz, gIsi_dct_int, gIsi_dct_bool, gIsi_dct_tuple, gIsi_dct_str, gIsi_dct_list, fIs_dct, decide_true, Bool.not_true]
          exact ihj (k + 1) t3 y3 _ _ _ D (by omega) (hy3.mono hle) (hp.trans ((List.prefix_append _ _).trans (List.prefix_append _ _))) (dk_snoc (dk_snoc D3)) (by omega) hnx
        by_cases c : k < 4
        · simp only [decide_eq_true (show (k : Int) < 4 by omega), mBody_e, startD_e, mNext_e, mSeq_e, mExpr_e, mRet_e, mRetN_e, mIfS_e, mBreak_e, mCont_e, mSet_e, mAsg_e, mPar2_e, mPar3_e, mVar_e, slot_0, slot_s, mC_e, mOp_e, mUn_e, mT_e, mAnd_e, mOr_e, mNot_e, mAndV_e, mOrV_e, mNotV_e, mIf_e, mTup_0, mTup_1, mTup_2, mTup_3, mLst_0, mLst_1, mLst_2, mLst_3, mLst_4, mCall_1, mCall_2, mCallF_1, mCallF_2, mCallF_3, mCallF_4, mFor_e, iR1_e, iZ_e, iE_e, iS_e, mLc_e, mLcO_e, mYes_e, gTg_e, bindT_nm, bindT_1, bindT_2, bindT_3, onEnv_s, onInt_i, onBl_b, onSeq_t, onSeq_l, onSeq_f, onZip_t, onZip_l, onEnum_t, onEnum_l, onT_t, onT_f, onSome_s, fAdd_ii, fAdd_tt, fAdd_ll, fAdd_ss, fSub_ii, fMul_ii, fMul_li, fDiv_ii, fMod_ii, fPow_ii, fNeg_i, fLe_ii, fGt_ii, fGe_ii, fLt_ii, fEq_ii, fEq_ss, fEq_bb, gLen_t, gLen_l, gLen_f, gInt_i, gInt_b, gBool_b, gList_t, gList_l, gList_f, gTuple_t, gTuple_l, gSum_t, gSum_l, fIx_t, fIx_l, fIx_f, fSl_t, fSl_l, fSl_f, fRev_t, fRev_l, wipeD_n, wipeD_c, mPN_e, mPS_e, mSl_e, mDct_e, mChain_e, gMax2_ii, fMulO_li, fMulT_e, iR2_e, fEqN_l, mLst_7, mLst_8, mLst_9, mLst_10, mLst_11, mLst_12, mLst_13, mLst_14, mLst_15, mLst_16, mLst_17, mLst_18, mLst_19, mLst_20, mDcx_e, mMeth_e, mMeth0_e, tyM_str, true_and, mLstO_0, mLstO_1, mLstO_2, mLstO_3, mLstO_4, mTup_4, mLstO_5, mLst_5, mTup_5, mLstO_6, mLst_6, mTup_6, gIsi_non_int, gIsi_non_bool, gIsi_non_tuple, gIsi_non_str, gIsi_non_list, fIs_non, gIsi_bl_int, gIsi_bl_bool, gIsi_bl_tuple, gIsi_bl_str, gIsi_bl_list, fIs_bl, gIsi_int_int, gIsi_int_bool, gIsi_int_tuple, gIsi_int_str, gIsi_int_list, fIs_int, gIsi_str_int, gIsi_str_bool, gIsi_str_tuple, gIsi_str_str, gIsi_str_list, fIs_str, gIsi_tup_int, gIsi_tup_bool, gIsi_tup_tuple, gIsi_tup_str, gIsi_tup_list, fIs_tup, gIsi_lst_int, gIsi_lst_bool, gIsi_lst_tuple, gIsi_lst_str, gIsi_lst_list, fIs_lst, gIsi_frz_int, gIsi_frz_bool, gIsi_frz_tuple, gIsi_frz_str, gIsi_frz_list, fIs_frz, gIsi_dct_int, gIsi_dct_bool, gIsi_dct_tuple, gIsi_dct_str, gIsi_dct_list, fIs_dct]
          exact fin _ _ 1000 tx (by omega) (by rw [if_pos (by omega)]; decide)
        · simp only [decide_eq_false (show ¬ (k : Int) < 4 by omega), mBody_e, startD_e, mNext_e, mSeq_e, mExpr_e, mRet_e, mRetN_e, mIfS_e, mBreak_e, mCont_e, mSet_e, mAsg_e, mPar2_e, mPar3_e, mVar_e, slot_0, slot_s, mC_e, mOp_e, mUn_e, mT_e, mAnd_e, mOr_e, mNot_e, mAndV_e, mOrV_e, mNotV_e, mIf_e, mTup_0, mTup_1, mTup_2, mTup_3, mLst_0, mLst_1, mLst_2, mLst_3, mLst_4, mCall_1, mCall_2, mCallF_1, mCallF_2, mCallF_3, mCallF_4, mFor_e, iR1_e, iZ_e, iE_e, iS_e, mLc_e, mLcO_e, mYes_e, gTg_e, bindT_nm, bindT_1, bindT_2, bindT_3, onEnv_s, onInt_i, onBl_b, onSeq_t, onSeq_l, onSeq_f, onZip_t, onZip_l, onEnum_t, onEnum_l, onT_t, onT_f, onSome_s, fAdd_ii, fAdd_tt, fAdd_ll, fAdd_ss, fSub_ii, fMul_ii, fMul_li, fDiv_ii, fMod_ii, fPow_ii, fNeg_i, fLe_ii, fGt_ii, fGe_ii, fLt_ii, fEq_ii, fEq_ss, fEq_bb, gLen_t, gLen_l, gLen_f, gInt_i, gInt_b, gBool_b, gList_t, gList_l, gList_f, gTuple_t, gTuple_l, gSum_t, gSum_l, fIx_t, fIx_l, fIx_f, fSl_t, fSl_l, fSl_f, fRev_t, fRev_l, wipeD_n, wipeD_c, mPN_e, mPS_e, mSl_e, mDct_e, mChain_e, gMax2_ii, fMulO_li, fMulT_e, iR2_e, fEqN_l, mLst_7, mLst_8, mLst_9, mLst_10, mLst_11, mLst_12, mLst_13, mLst_14, mLst_15, mLst_16, mLst_17, mLst_18, mLst_19, mLst_20, mDcx_e, mMeth_e, mMeth0_e, tyM_str, true_and, mLstO_0, mLstO_1, mLstO_2, mLstO_3, mLstO_4, mTup_4, mLstO_5, mLst_5, mTup_5, mLstO_6, mLst_6, mTup_6, gIsi_non_int, gIsi_non_bool, gIsi_non_tuple, gIsi_non_str, gIsi_non_list, fIs_non, gIsi_bl_int, gIsi_bl_bool, gIsi_bl_tuple, gIsi_bl_str, gIsi_bl_list, fIs_bl, gIsi_int_int, gIsi_int_bool, gIsi_int_tuple, gIsi_int_str, gIsi_int_list, fIs_int, gIsi_str_int, gIsi_str_bool, gIsi_str_tuple, gIsi_str_str, gIsi_str_list, fIs_str, gIsi_tup_int, gIsi_tup_bool, gIsi_tup_tuple, gIsi_tup_str, gIsi_tup_list, fIs_tup, gIsi_lst_int, gIsi_lst_bool, gIsi_lst_tuple, gIsi_lst_str, gIsi_lst_list, fIs_lst, gIsi_frz_int, gIsi_frz_bool, gIsi_frz_tuple, gIsi_frz_str, gIsi_frz_list, fIs_frz, gIsi_dct_int, gIsi_dct_bool, gIsi_dct_tuple, gIsi_dct_str, gIsi_dct_list, fIs_dct]
          by_cases c5 : k = 4
          · rw [if_pos (by omega)] at hy
            exact fin _ _ 4100 hy (by omega) (by rw [if_neg (by omega), if_pos (by omega)]; decide)
          · rw [if_neg (by omega), if_pos (by omega)] at hy
            exact fin _ _ 16500 hy (by omega) (by rw [if_neg (by omega), if_neg (by omega)]; decide)
    refine key2 6 0 t1 _ R2 S2 d10 _ rfl (tx.mono (by decide)) hp2 D2 (by omega) fun y d10 t4 R4 S4 D4 ht4 hp4 => ?_
    simp only [app3 r_law_3_e, mBody_e, startD_e, mNext_e, mSeq_e, mExpr_e, mRet_e, mRetN_e, mIfS_e, mBreak_e, mCont_e, mSet_e, mAsg_e, mPar2_e, mPar3_e, mVar_e, slot_0, slot_s, mC_e, mOp_e, mUn_e, mT_e, mAnd_e, mOr_e, mNot_e, mAndV_e, mOrV_e, mNotV_e, mIf_e, mTup_0, mTup_1, mTup_2, mTup_3, mLst_0, mLst_1, mLst_2, mLst_3, mLst_4, mCall_1, mCall_2, mCallF_1, mCallF_2, mCallF_3, mCallF_4, mFor_e, iR1_e, iZ_e, iE_e, iS_e, mLc_e, mLcO_e, mYes_e, gTg_e, bindT_nm, bindT_1, bindT_2, bindT_3, onEnv_s, onInt_i, onBl_b, onSeq_t, onSeq_l, onSeq_f, onZip_t, onZip_l, onEnum_t, onEnum_l, onT_t, onT_f, onSome_s, fAdd_ii, fAdd_tt, fAdd_ll, fAdd_ss, fSub_ii, fMul_ii, fMul_li, fDiv_ii, fMod_ii, fPow_ii, fNeg_i, fLe_ii, fGt_ii, fGe_ii, fLt_ii, fEq_ii, fEq_ss, fEq_bb, gLen_t, gLen_l, gLen_f, gInt_i, gInt_b, gBool_b, gList_t, gList_l, gList_f, gTuple_t, gTuple_l, gSum_t, gSum_l, fIx_t, fIx_l, fIx_f, fSl_t, fSl_l, fSl_f, fRev_t, fRev_l, wipeD_n, wipeD_c, mPN_e, mPS_e, mSl_e, mDct_e, mChain_e, gMax2_ii, fMulO_li, fMulT_e, iR2_e, fEqN_l, mLst_7, mLst_8, mLst_9, mLst_10, mLst_11, mLst_12, mLst_13, mLst_14, mLst_15, mLst_16, mLst_17, mLst_18, mLst_19, mLst_20, mDcx_e, mMeth_e, mMeth0_e, tyM_str, true_and, mLstO_0, mLstO_1, mLstO_2, mLstO_3, mLstO_4, mTup_4, mLstO_5, mLst_5, mTup_5, mLstO_6, mLst_6, mTup_6, gIsi_non_int, gIsi_non_bool, gIsi_non_tuple, gIsi_non_str, gIsi_non_list, fIs_non, gIsi_bl_int, gIsi_bl_bool, gIsi_bl_tuple, gIsi_bl_str, gIsi_bl_list, fIs_bl, gIsi_int_int, gIsi_int_bool, gIsi_int_tuple, gIsi_int_str, gIsi_int_list, fIs_int, gIsi_str_int, gIsi_str_bool, gIsi_str_tuple, gIsi_str_str, gIsi_str_list, fIs_str, gIsi_tup_int, gIsi_tup_bool, gIsi_tup_tuple, gIsi_tup_str, gIsi_tup_list, fIs_tup, gIsi_lst_int, gIsi_lst_bool, gIsi_lst_tuple, gIsi_lst_str, gIsi_lst_list, fIs_lst, gIsi_frz_int, gIsi_frz_bool, gIsi_frz_tuple, gIsi_frz_str, gIsi_frz_list, fIs_frz, gIsi_dct_int, gIsi_dct_bool, gIsi_dct_tuple, gIsi_dct_str, gIsi_dct_list, fIs_dct, List.map_cons, List.map_nil, List.length_cons, List.length_nil, List.cons_append, List.nil_append, List.set_cons_zero, List.set_cons_succ, List.replicate_zero, List.replicate_succ]
    refine one_ok D4 (by decide) (by decide) (by omega) fun S5 d D5 hd => ?_
    have hdt : ∀ (S : Store) (Q : MK DV), gIsi [d, .ty "str"] S Q = Q (.bl false) S := fun S Q => by
      simp only [List.mem_cons, List.not_mem_nil, or_false] at hd
      rcases hd with rfl | rfl | rfl | rfl | rfl | rfl | rfl
      all_goals exact gIsi_of rfl (by decide +kernel)
    clear hd
    try simp only [mBody_e, startD_e, mNext_e, mSeq_e, mExpr_e, mRet_e, mRetN_e, mIfS_e, mBreak_e, mCont_e, mSet_e, mAsg_e, mPar2_e, mPar3_e, mVar_e, slot_0, slot_s, mC_e, mOp_e, mUn_e, mT_e, mAnd_e, mOr_e, mNot_e, mAndV_e, mOrV_e, mNotV_e, mIf_e, mTup_0, mTup_1, mTup_2, mTup_3, mLst_0, mLst_1, mLst_2, mLst_3, mLst_4, mCall_1, mCall_2, mCallF_1, mCallF_2, mCallF_3, mCallF_4, mFor_e, iR1_e, iZ_e, iE_e, iS_e, mLc_e, mLcO_e, mYes_e, gTg_e, bindT_nm, bindT_1, bindT_2, bindT_3, onEnv_s, onInt_i, onBl_b, onSeq_t, onSeq_l, onSeq_f, onZip_t, onZip_l, onEnum_t, onEnum_l, onT_t, onT_f, onSome_s, fAdd_ii, fAdd_tt, fAdd_ll, fAdd_ss, fSub_ii, fMul_ii, fMul_li, fDiv_ii, fMod_ii, fPow_ii, fNeg_i, fLe_ii, fGt_ii, fGe_ii, fLt_ii, fEq_ii, fEq_ss, fEq_bb, gLen_t, gLen_l, gLen_f, gInt_i, gInt_b, gBool_b, gList_t, gList_l, gList_f, gTuple_t, gTuple_l, gSum_t, gSum_l, fIx_t, fIx_l, fIx_f, fSl_t, fSl_l, fSl_f, fRev_t, fRev_l, wipeD_n, wipeD_c, mPN_e, mPS_e, mSl_e, mDct_e, mChain_e, gMax2_ii, fMulO_li, fMulT_e, iR2_e, fEqN_l, mLst_7, mLst_8, mLst_9, mLst_10, mLst_11, mLst_12, mLst_13, mLst_14, mLst_15, mLst_16, mLst_17, mLst_18, mLst_19, mLst_20, mDcx_e, mMeth_e, mMeth0_e, tyM_str, true_and, mLstO_0, mLstO_1, mLstO_2, mLstO_3, mLstO_4, mTup_4, mLstO_5, mLst_5, mTup_5, mLstO_6, mLst_6, mTup_6, gIsi_non_int, gIsi_non_bool, gIsi_non_tuple, gIsi_non_str, gIsi_non_list, fIs_non, gIsi_bl_int, gIsi_bl_bool, gIsi_bl_tuple, gIsi_bl_str, gIsi_bl_list, fIs_bl, gIsi_int_int, gIsi_int_bool, gIsi_int_tuple, gIsi_int_str, gIsi_int_list, fIs_int, gIsi_str_int, gIsi_str_bool, gIsi_str_tuple, gIsi_str_str, gIsi_str_list, fIs_str, gIsi_tup_int, gIsi_tup_bool, gIsi_tup_tuple, gIsi_tup_str, gIsi_tup_list, fIs_tup, gIsi_lst_int, gIsi_lst_bool, gIsi_lst_tuple, gIsi_lst_str, gIsi_lst_list, fIs_lst, gIsi_frz_int, gIsi_frz_bool, gIsi_frz_tuple, gIsi_frz_str, gIsi_frz_list, fIs_frz, gIsi_dct_int, gIsi_dct_bool, gIsi_dct_tuple, gIsi_dct_str, gIsi_dct_list, fIs_dct, List.map_cons, List.map_nil, List.length_cons, List.length_nil, List.cons_append, List.nil_append, List.set_cons_zero, List.set_cons_succ, List.replicate_zero, List.replicate_succ]
    simp only [app3 r_law_2_e, mBody_e, startD_e, mNext_e, mSeq_e, mExpr_e, mRet_e, mRetN_e, mIfS_e, mBreak_e, mCont_e, mSet_e, mAsg_e, mPar2_e, mPar3_e, mVar_e, slot_0, slot_s, mC_e, mOp_e, mUn_e, mT_e, mAnd_e, mOr_e, mNot_e, mAndV_e, mOrV_e, mNotV_e, mIf_e, mTup_0, mTup_1, mTup_2, mTup_3, mLst_0, mLst_1, mLst_2, mLst_3, mLst_4, mCall_1, mCall_2, mCallF_1, mCallF_2, mCallF_3, mCallF_4, mFor_e, iR1_e, iZ_e, iE_e, iS_e, mLc_e, mLcO_e, mYes_e, gTg_e, bindT_nm, bindT_1, bindT_2, bindT_3, onEnv_s, onInt_i, onBl_b, onSeq_t, onSeq_l, onSeq_f, onZip_t, onZip_l, onEnum_t, onEnum_l, onT_t, onT_f, onSome_s, fAdd_ii, fAdd_tt, fAdd_ll, fAdd_ss, fSub_ii, fMul_ii, fMul_li, fDiv_ii, fMod_ii, fPow_ii, fNeg_i, fLe_ii, fGt_ii, fGe_ii, fLt_ii, fEq_ii, fEq_ss, fEq_bb, gLen_t, gLen_l, gLen_f, gInt_i, gInt_b, gBool_b, gList_t, gList_l, gList_f, gTuple_t, gTuple_l, gSum_t, gSum_l, fIx_t, fIx_l, fIx_f, fSl_t, fSl_l, fSl_f, fRev_t, fRev_l, wipeD_n, wipeD_c, mPN_e, mPS_e, mSl_e, mDct_e, mChain_e, gMax2_ii, fMulO_li, fMulT_e, iR2_e, fEqN_l, mLst_7, mLst_8, mLst_9, mLst_10, mLst_11, mLst_12, mLst_13, mLst_14, mLst_15, mLst_16, mLst_17, mLst_18, mLst_19, mLst_20, mDcx_e, mMeth_e, mMeth0_e, tyM_str, true_and, mLstO_0, mLstO_1, mLstO_2, mLstO_3, mLstO_4, mTup_4, mLstO_5, mLst_5, mTup_5, mLstO_6, mLst_6, mTup_6, gIsi_non_int, gIsi_non_bool, gIsi_non_tuple, gIsi_non_str, gIsi_non_list, fIs_non, gIsi_bl_int, gIsi_bl_bool, gIsi_bl_tuple, gIsi_bl_str, gIsi_bl_list, fIs_bl, gIsi_int_int, gIsi_int_bool, gIsi_int_tuple, gIsi_int_str, gIsi_int_list, fIs_int, gIsi_str_int, gIsi_str_bool, gIsi_str_tuple, gIsi_str_str, gIsi_str_list, fIs_str, gIsi_tup_int, gIsi_tup_bool, gIsi_tup_tuple, gIsi_tup_str, gIsi_tup_list, fIs_tup, gIsi_lst_int, gIsi_lst_bool, gIsi_lst_tuple, gIsi_lst_str, gIsi_lst_list, fIs_lst, gIsi_frz_int, gIsi_frz_bool, gIsi_frz_tuple, gIsi_frz_str, gIsi_frz_list, fIs_frz, gIsi_dct_int, gIsi_dct_bool, gIsi_dct_tuple, gIsi_dct_str, gIsi_dct_list, fIs_dct, List.map_cons, List.map_nil, List.length_cons, List.length_nil, List.cons_append, List.nil_append, List.set_cons_zero, List.set_cons_succ, List.replicate_zero, List.replicate_succ]
    refine found_non (hdt _) ?_
    refine found_ok (by decide +kernel) fun ds1 => ?_
    rw [read_empty]
    try simp only [mBody_e, startD_e, mNext_e, mSeq_e, mExpr_e, mRet_e, mRetN_e, mIfS_e, mBreak_e, mCont_e, mSet_e, mAsg_e, mPar2_e, mPar3_e, mVar_e, slot_0, slot_s, mC_e, mOp_e, mUn_e, mT_e, mAnd_e, mOr_e, mNot_e, mAndV_e, mOrV_e, mNotV_e, mIf_e, mTup_0, mTup_1, mTup_2, mTup_3, mLst_0, mLst_1, mLst_2, mLst_3, mLst_4, mCall_1, mCall_2, mCallF_1, mCallF_2, mCallF_3, mCallF_4, mFor_e, iR1_e, iZ_e, iE_e, iS_e, mLc_e, mLcO_e, mYes_e, gTg_e, bindT_nm, bindT_1, bindT_2, bindT_3, onEnv_s, onInt_i, onBl_b, onSeq_t, onSeq_l, onSeq_f, onZip_t, onZip_l, onEnum_t, onEnum_l, onT_t, onT_f, onSome_s, fAdd_ii, fAdd_tt, fAdd_ll, fAdd_ss, fSub_ii, fMul_ii, fMul_li, fDiv_ii, fMod_ii, fPow_ii, fNeg_i, fLe_ii, fGt_ii, fGe_ii, fLt_ii, fEq_ii, fEq_ss, fEq_bb, gLen_t, gLen_l, gLen_f, gInt_i, gInt_b, gBool_b, gList_t, gList_l, gList_f, gTuple_t, gTuple_l, gSum_t, gSum_l, fIx_t, fIx_l, fIx_f, fSl_t, fSl_l, fSl_f, fRev_t, fRev_l, wipeD_n, wipeD_c, mPN_e, mPS_e, mSl_e, mDct_e, mChain_e, gMax2_ii, fMulO_li, fMulT_e, iR2_e, fEqN_l, mLst_7, mLst_8, mLst_9, mLst_10, mLst_11, mLst_12, mLst_13, mLst_14, mLst_15, mLst_16, mLst_17, mLst_18, mLst_19, mLst_20, mDcx_e, mMeth_e, mMeth0_e, tyM_str, true_and, mLstO_0, mLstO_1, mLstO_2, mLstO_3, mLstO_4, mTup_4, mLstO_5, mLst_5, mTup_5, mLstO_6, mLst_6, mTup_6, gIsi_non_int, gIsi_non_bool, gIsi_non_tuple, gIsi_non_str, gIsi_non_list, fIs_non, gIsi_bl_int, gIsi_bl_bool, gIsi_bl_tuple, gIsi_bl_str, gIsi_bl_list, fIs_bl, gIsi_int_int, gIsi_int_bool, gIsi_int_tuple, gIsi_int_str, gIsi_int_list, fIs_int, gIsi_str_int, gIsi_str_bool, gIsi_str_tuple, gIsi_str_str, gIsi_str_list, fIs_str, gIsi_tup_int, gIsi_tup_bool, gIsi_tup_tuple, gIsi_tup_str, gIsi_tup_list, fIs_tup, gIsi_lst_int, gIsi_lst_bool, gIsi_lst_tuple, gIsi_lst_str, gIsi_lst_list, fIs_lst, gIsi_frz_int, gIsi_frz_bool, gIsi_frz_tuple, gIsi_frz_str, gIsi_frz_list, fIs_frz, gIsi_dct_int, gIsi_dct_bool, gIsi_dct_tuple, gIsi_dct_str, gIsi_dct_list, fIs_dct]
    have e1 : (Str.ofString "\n").length = 1 := by decide +kernel
    have txl := tx.len
    refine ⟨by rw [e1]; omega, found_ok (by rw [str_len_app, e1]; omega) fun ds2 => ?_⟩
    rw [read_more T]
    obtain ⟨p, tp, rp⟩ := bads_repr (k := ts.length + 1) (by have := T.len; omega)
    refine gRepr_d tp rp ?_
    try simp only [mBody_e, startD_e, mNext_e, mSeq_e, mExpr_e, mRet_e, mRetN_e, mIfS_e, mBreak_e, mCont_e, mSet_e, mAsg_e, mPar2_e, mPar3_e, mVar_e, slot_0, slot_s, mC_e, mOp_e, mUn_e, mT_e, mAnd_e, mOr_e, mNot_e, mAndV_e, mOrV_e, mNotV_e, mIf_e, mTup_0, mTup_1, mTup_2, mTup_3, mLst_0, mLst_1, mLst_2, mLst_3, mLst_4, mCall_1, mCall_2, mCallF_1, mCallF_2, mCallF_3, mCallF_4, mFor_e, iR1_e, iZ_e, iE_e, iS_e, mLc_e, mLcO_e, mYes_e, gTg_e, bindT_nm, bindT_1, bindT_2, bindT_3, onEnv_s, onInt_i, onBl_b, onSeq_t, onSeq_l, onSeq_f, onZip_t, onZip_l, onEnum_t, onEnum_l, onT_t, onT_f, onSome_s, fAdd_ii, fAdd_tt, fAdd_ll, fAdd_ss, fSub_ii, fMul_ii, fMul_li, fDiv_ii, fMod_ii, fPow_ii, fNeg_i, fLe_ii, fGt_ii, fGe_ii, fLt_ii, fEq_ii, fEq_ss, fEq_bb, gLen_t, gLen_l, gLen_f, gInt_i, gInt_b, gBool_b, gList_t, gList_l, gList_f, gTuple_t, gTuple_l, gSum_t, gSum_l, fIx_t, fIx_l, fIx_f, fSl_t, fSl_l, fSl_f, fRev_t, fRev_l, wipeD_n, wipeD_c, mPN_e, mPS_e, mSl_e, mDct_e, mChain_e, gMax2_ii, fMulO_li, fMulT_e, iR2_e, fEqN_l, mLst_7, mLst_8, mLst_9, mLst_10, mLst_11, mLst_12, mLst_13, mLst_14, mLst_15, mLst_16, mLst_17, mLst_18, mLst_19, mLst_20, mDcx_e, mMeth_e, mMeth0_e, tyM_str, true_and, mLstO_0, mLstO_1, mLstO_2, mLstO_3, mLstO_4, mTup_4, mLstO_5, mLst_5, mTup_5, mLstO_6, mLst_6, mTup_6, gIsi_non_int, gIsi_non_bool, gIsi_non_tuple, gIsi_non_str, gIsi_non_list, fIs_non, gIsi_bl_int, gIsi_bl_bool, gIsi_bl_tuple, gIsi_bl_str, gIsi_bl_list, fIs_bl, gIsi_int_int, gIsi_int_bool, gIsi_int_tuple, gIsi_int_str, gIsi_int_list, fIs_int, gIsi_str_int, gIsi_str_bool, gIsi_str_tuple, gIsi_str_str, gIsi_str_list, fIs_str, gIsi_tup_int, gIsi_tup_bool, gIsi_tup_tuple, gIsi_tup_str, gIsi_tup_list, fIs_tup, gIsi_lst_int, gIsi_lst_bool, gIsi_lst_tuple, gIsi_lst_str, gIsi_lst_list, fIs_lst, gIsi_frz_int, gIsi_frz_bool, gIsi_frz_tuple, gIsi_frz_str, gIsi_frz_list, fIs_frz, gIsi_dct_int, gIsi_dct_bool, gIsi_dct_tuple, gIsi_dct_str, gIsi_dct_list, fIs_dct]
    refine gLen_ref (seqD_ref (by rw [hlen]; exact dk_get (dk_snoc (dk_snoc D5)) (pre_get (hp4.trans ((List.prefix_append _ _).trans (List.prefix_append _ _)))))) ?_
    have el : (strsV (headT g :: ts.map lineT)).length = ts.length + 1 := by simp [strsV]
    rw [el]
    refine gRepr_d tp rp ?_
    simp only [mBody_e, startD_e, mNext_e, mSeq_e, mExpr_e, mRet_e, mRetN_e, mIfS_e, mBreak_e, mCont_e, mSet_e, mAsg_e, mPar2_e, mPar3_e, mVar_e, slot_0, slot_s, mC_e, mOp_e, mUn_e, mT_e, mAnd_e, mOr_e, mNot_e, mAndV_e, mOrV_e, mNotV_e, mIf_e, mTup_0, mTup_1, mTup_2, mTup_3, mLst_0, mLst_1, mLst_2, mLst_3, mLst_4, mCall_1, mCall_2, mCallF_1, mCallF_2, mCallF_3, mCallF_4, mFor_e, iR1_e, iZ_e, iE_e, iS_e, mLc_e, mLcO_e, mYes_e, gTg_e, bindT_nm, bindT_1, bindT_2, bindT_3, onEnv_s, onInt_i, onBl_b, onSeq_t, onSeq_l, onSeq_f, onZip_t, onZip_l, onEnum_t, onEnum_l, onT_t, onT_f, onSome_s, fAdd_ii, fAdd_tt, fAdd_ll, fAdd_ss, fSub_ii, fMul_ii, fMul_li, fDiv_ii, fMod_ii, fPow_ii, fNeg_i, fLe_ii, fGt_ii, fGe_ii, fLt_ii, fEq_ii, fEq_ss, fEq_bb, gLen_t, gLen_l, gLen_f, gInt_i, gInt_b, gBool_b, gList_t, gList_l, gList_f, gTuple_t, gTuple_l, gSum_t, gSum_l, fIx_t, fIx_l, fIx_f, fSl_t, fSl_l, fSl_f, fRev_t, fRev_l, wipeD_n, wipeD_c, mPN_e, mPS_e, mSl_e, mDct_e, mChain_e, gMax2_ii, fMulO_li, fMulT_e, iR2_e, fEqN_l, mLst_7, mLst_8, mLst_9, mLst_10, mLst_11, mLst_12, mLst_13, mLst_14, mLst_15, mLst_16, mLst_17, mLst_18, mLst_19, mLst_20, mDcx_e, mMeth_e, mMeth0_e, tyM_str, true_and, mLstO_0, mLstO_1, mLstO_2, mLstO_3, mLstO_4, mTup_4, mLstO_5, mLst_5, mTup_5, mLstO_6, mLst_6, mTup_6, gIsi_non_int, gIsi_non_bool, gIsi_non_tuple, gIsi_non_str, gIsi_non_list, fIs_non, gIsi_bl_int, gIsi_bl_bool, gIsi_bl_tuple, gIsi_bl_str, gIsi_bl_list, fIs_bl, gIsi_int_int, gIsi_int_bool, gIsi_int_tuple, gIsi_int_str, gIsi_int_list, fIs_int, gIsi_str_int, gIsi_str_bool, gIsi_str_tuple, gIsi_str_str, gIsi_str_list, fIs_str, gIsi_tup_int, gIsi_tup_bool, gIsi_tup_tuple, gIsi_tup_str, gIsi_tup_list, fIs_tup, gIsi_lst_int, gIsi_lst_bool, gIsi_lst_tuple, gIsi_lst_str, gIsi_lst_list, fIs_lst, gIsi_frz_int, gIsi_frz_bool, gIsi_frz_tuple, gIsi_frz_str, gIsi_frz_list, fIs_frz, gIsi_dct_int, gIsi_dct_bool, gIsi_dct_tuple, gIsi_dct_str, gIsi_dct_list, fIs_dct, decide_true, Bool.not_true]
    exact ih _ _ ⟨_, _, _, _, _, _, _, _, _, _, _, _, rfl, dk_snoc (dk_snoc D5), by omega⟩
end G_k06
open PySem PySem.W PySem.Calls PyProof.Rows
theorem holds_of (hm : DL.LawG 63 G_k06.m_law) : PySem.Challenge.rw_lentbeside_k06_texts_that_are_wrong.Holds := by
  w_on; o_law
  refine HandSHeadRun.head_any (r := OpenLaw.row PySem.Challenge.rw_lentbeside_k06_texts_that_are_wrong) (q := view (OpenLaw.row PySem.Challenge.rw_lentbeside_k06_texts_that_are_wrong).prog [26]) (H := G_k06.hk) (ob := G_k06.ob) (M := 4000) (loose := G_k06.loose) (d := HandSHeadRun.topDef (OpenLaw.row PySem.Challenge.rw_lentbeside_k06_texts_that_are_wrong).prog 26) (kwd := []) G_k06.ob_eq
    (by kernel_rfl) (fun s => by kernel_rfl) G_k06.run (by kernel_rfl) (by kernel_rfl) (by kernel_rfl) (by rfl) (by first | assumption | decide +kernel) (by decide +kernel) ⟨rfl, rfl, rfl, rfl, rfl, by decide +kernel⟩ ?hw ?hc
  case hw => w_witness2
  case hc =>
    refine DL.walk_ofD (l := PySem.Challenge.rw_lentbeside_k06_texts_that_are_wrong) (n := 63) (k := 6) (x := "_law_script") (CX := L2.CX0) rfl (by decide) (by kernel_rfl) ⟨rfl, by decide, by decide⟩ hm ?F (fun _ _ _ _ z => z)
    intro w mg fa h Y G hmg0
    obtain ⟨K, KX, c⟩ := Y
    have hmg : mg ("law" : PySem.Str) = some (.ref fa) := by
      have e : (HandSHeadRun.topDef (OpenLaw.row PySem.Challenge.rw_lentbeside_k06_texts_that_are_wrong).prog 26).name = ("law" : PySem.Str) := by kernel_rfl
      rw [← e]
      exact hmg0
    have z := G_k06.z_of KX G c
    obtain ⟨f, fd, hm2, F⟩ := z.fn_law
    rw [hmg] at hm2
    cases hm2
    have b := L2.FunD.bindsA (ps := ["_law_script"]) F fun _ _ _ _ _ _ us hl => match us, hl with | [_], _ => rfl
    refine ⟨K, fd, KX, fun s v => b s [v] rfl, fun base _ _ => ?_⟩
    exact (G_k06.ok_law F z)
theorem PySem.Challenge.cw_lentbeside_k06_texts_that_are_wrong_holds : PySem.Challenge.rw_lentbeside_k06_texts_that_are_wrong.Holds := by
  exact holds_of G_k06.law_ok
