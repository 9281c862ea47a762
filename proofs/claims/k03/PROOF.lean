import PyProof.Rows.All
import Wide.All
import OpenK.AllK
import Wide.FinOn
import HandS.TupSets
import HandS.ForMost
import HandS.Exc
import HandS.HeadHook2
import KE.KNestM
import HandS.Nested
import HandS.ExcCtx
import HandS.TupAny
import HandS.TupMul
import HandS.Wide
import HandS.Zip
import HandS.NoneIn
import HandS.IsInst
import KE.LtData
import KE.SortData
import KE.DatumIndex
import KE.DataMinMax
import KE.GoesEnum
import HandS.Style
import HandS.Defaults
import KE.GoesMore
import HandS.Ends
import HandS.EndBits
import HandS.HeadEnd
import HandS.EndTab
import HandS.Text
import HandS.ForSpec
import HandS.HeadHook4
import HandS.HeadNt
import HandS.Lambda
import HandS.ClsMeth
import HandS.Property
import HandS.OwnEq
import HandS.Small
import HandS.RaiseMore
import HandS.TryOnly
import KE.KCallOwn
import KE.KOpsOwn
import PyProof.InstNe
import PyProof.Conv_bool
import HandS.TupLe
import PyProof.ReprRoads
import HandS.FStr
import HandS.Conv
import HandS.TryMany
import KE.KExcInit
import KE.KSuper
import HandS.Head2
import HandS.OwnIter
import HandS.IterNext
import HandS.More
import PyProof.Rows.TupDisplay
import KE.GoesNew
import HandS.SetFor
import HandS.GenCall
import HandS.GenList
import HandS.Comp
import PyProof.Rows.ListAppend
import PySem.Challenge.RW_lentbeside_k03_what_is_near
set_option Elab.async false
set_option linter.all false
set_option maxRecDepth 100000
set_option maxHeartbeats 4000000
set_option autoImplicit false
/-! Keys of dicts that are pairs of tuples of ints; such a dict as an object. -/
namespace SX
open PySem PySem.Spec PyProof.Rows L2
abbrev PrK := List Int × List Int
/-- a pair of tuples of ints stands at a -/
def IsP (P : Program) (w : World) (h : Heap) (k : PrK) (a : Addr) : Prop := ∃ (o : Obj) (p q : Addr) (n : Nat), h.get? a = some o ∧ o.cls = .type "tuple" ∧ o.data = .seq #[.ref p, .ref q] n ∧ IsT P w h k.1 p ∧ IsT P w h k.2 q
def pHash (P : Program) (w : World) (k : PrK) : Int := reduceHash (Builtin.Tuple.tupleHashOf [thash P w k.1, thash P w k.2])
section
variable {P : Program} {w : World} {A : Around} {E : Value → Shared → Prop} {s : Shared}
theorem IsP.typeIs {k : PrK} {a : Addr} (x : IsP P w s.heap k a) : s.TypeIs (.ref a) "tuple" := let ⟨o, _, _, _, ho, hc, _⟩ := x; ⟨o, ho, hc⟩
theorem IsP.inj {h : Heap} {a : Addr} {x y : PrK} (hx : IsP P w h x a) (hy : IsP P w h y a) : x = y := by
  obtain ⟨o, p, q, n, ho, _, hd, h1, h2⟩ := hx
  obtain ⟨o', p', q', n', ho', _, hd', h1', h2'⟩ := hy
  obtain rfl : o = o' := Option.some.inj (ho.symm.trans ho')
  rw [hd] at hd'
  injection hd' with e _
  have e := congrArg Array.toList e
  simp at e
  obtain ⟨rfl, rfl⟩ := e
  exact Prod.ext (h1.inj h1') (h2.inj h2')
theorem IsP.stay {h h' : Heap} {a : Addr} {k : PrK} (x : IsP P w h k a) (k1 : ∀ b o its n, h.get? b = some o → o.data = .seq its n → h'.get? b = some o) : IsP P w h' k a := by
  obtain ⟨o, p, q, n, ho, hc, hd, ⟨o1, i1, n1, a1, a2, a3, a4⟩, o2, i2, n2, b1, b2, b3, b4⟩ := x
  exact ⟨o, p, q, n, k1 a o _ _ ho hd, hc, hd, ⟨o1, i1, n1, k1 p o1 _ _ a1 a3, a2, a3, a4⟩, o2, i2, n2, k1 q o2 _ _ b1 b3, b2, b3, b4⟩
theorem pHash_run {k : PrK} {a : Addr} {Q : Int → Shared → Prop} (hu : A.units + 4 < cLine) (hk : IsP P w s.heap k a) (h : Q (pHash P w k) { s with toks := s.toks + (k.1.length + k.2.length + 3) }) : wpAny (model P w) A (pyHash (.ref a)) Q E s := by
  have hT := hk.typeIs
  obtain ⟨o, p, q, n, ho, _, hd, h1, h2⟩ := hk
  unfold pyHash
  first | unfold pyHashByItsType | skip
  first | refine wpAny_bind (wpAny_cRoomFor_or (.inr (by omega)) ?_) | skip
  refine wpAny_bind (wpAny_specialOf hT F.slot_tuple_hash.lookup ?_)
  show wpAny _ _ (if (some (Value.builtin "tuple.__hash__") == some Value.none) = true then _ else _) Q E s
  rw [if_neg (by rw [beq_builtin_none]; exact Bool.false_ne_true)]
  refine wpAny_bind (wpAny_specialOf hT F.slot_tuple_hash.lookup ?_)
  show wpAny _ _ (callSpecialIfBoundUnlessNone? (.ref a) "__hash__" _ >>= _) Q E s
  refine wpAny_bind (wpAny_callSpecialIfBoundUnlessNone?_slot hT F.slot_tuple_hash (wpAny_call_entry F.slot_tuple_hash hT F.entry_tuple_hash ?_ (F.args_tuple_hash_1 _)))
  show wpAny _ _ (Builtin.Tuple.tupleItemsOf (.ref a) >>= _) _ _ s
  refine wpAny_bind (wpAny_tupleItemsOf ho hd ?_)
  refine wpAny_bind ?_
  rw [← Array.forIn_toList]
  show wpAny _ _ (forIn [Value.ref p, Value.ref q] _ _) _ _ _
  rw [List.forIn_cons]
  refine wpAny_bind (wpAny_bind (wpAny_pyHash_tuple (show A.units + 1 < cLine by omega) h1 ?_))
  refine wpAny_pure ?_
  dsimp only
  rw [List.forIn_cons]
  refine wpAny_bind (wpAny_bind (wpAny_pyHash_tuple (show A.units + 1 < cLine by omega) h2 ?_))
  refine wpAny_pure ?_
  dsimp only
  rw [List.forIn_nil]
  refine wpAny_pure ?_
  show wpAny _ _ (retInt (Builtin.Tuple.tupleHashOf [thash P w k.1, thash P w k.2])) _ _ _
  refine wpAny_ret_mkInt ?_
  show wpAny _ _ (if (decide (-(2 : Int) ^ 63 ≤ Builtin.Tuple.tupleHashOf [thash P w k.1, thash P w k.2]) && decide (Builtin.Tuple.tupleHashOf [thash P w k.1, thash P w k.2] < 2 ^ 63)) = true then _ else _) Q E _
  unfold pHash reduceHash at h
  have et : s.toks + (k.1.length + 1) + (k.2.length + 1) + 1 = s.toks + (k.1.length + k.2.length + 3) := by omega
  by_cases c : (decide (-(2 : Int) ^ 63 ≤ Builtin.Tuple.tupleHashOf [thash P w k.1, thash P w k.2]) && decide (Builtin.Tuple.tupleHashOf [thash P w k.1, thash P w k.2] < 2 ^ 63)) = true
  · rw [if_pos c]
    rw [if_pos c] at h
    refine wpAny_pure ?_
    rw [← et] at h
    exact h
  · rw [if_neg c]
    rw [if_neg c] at h
    refine wpAny_bind (wpAny_rule (wpAny_pure ?_))
    rw [← et] at h
    exact h
theorem pEq_run {x y : PrK} {a b : Addr} {Q : Bool → Shared → Prop} (hu : A.units + 4 < cLine) (hx : IsP P w s.heap x a) (hy : IsP P w s.heap y b) (h : Q (decide (x = y)) s) : wpAny (model P w) A (eqBool (.ref a) (.ref b)) Q E s := by
  unfold eqBool
  try with_reducible refine wpAny_holding ?_
  show wpAny _ _ (if (Value.ref a == Value.ref b) = true then _ else _) Q E s
  by_cases hab : (Value.ref a == Value.ref b) = true
  · rw [if_pos hab]
    have e : a = b := by have := eq_of_beq hab; injection this
    subst e
    obtain rfl := hx.inj hy
    exact wpAny_bind (wpAny_rule (wpAny_pure (by simpa using h)))
  · rw [if_neg hab]
    refine wpAny_bind (wpAny_richCompare_same_room (op := .Eq) hx.typeIs hy.typeIs F.slot_tuple_eq (wpAny_call_entry F.slot_tuple_eq hx.typeIs F.entry_tuple_eq (?_) (F.args_tuple_eq_2 _ _)) (by omega))
    have hTb := hy.typeIs
    obtain ⟨oa, p, q, na, hoa, _, hda, x1, x2⟩ := hx
    obtain ⟨ob, p', q', nb, hob, _, hdb, y1, y2⟩ := hy
    show wpAny _ _ (isInstance (.ref b) (.type "tuple") >>= _) _ _ s
    refine wpAny_bind (wpAny_isInstance hTb isSubtype_tuple_tuple ?_)
    simp only [Bool.not_true, Bool.false_eq_true, if_false]
    refine wpAny_bind (wpAny_tupleItemsOf hoa hda ?_)
    refine wpAny_bind (wpAny_tupleItemsOf hob hdb ?_)
    have no : ∀ {c : Bool}, c = false → decide (x = y) = c → wpAny (model P w) A (truthOfDropped (.bool false)) Q E s := fun {c} hc e => by
      rw [e, hc] at h
      exact wpAny_truthy_bool h
    refine wpAny_bind ?_
    show wpAny _ _ (forIn [(Value.ref p, Value.ref p'), (Value.ref q, Value.ref q')] _ _) _ _ s
    rw [List.forIn_cons]
    refine wpAny_bind (wpAny_bind (wpAny_eqBool_tuple (show A.units + 1 < cLine by omega) x1 y1 ?_))
    by_cases e1 : x.1 = y.1
    · rw [decide_eq_true e1]
      simp only [Bool.not_true, Bool.false_eq_true, if_false]
      refine wpAny_pure ?_
      dsimp only
      rw [List.forIn_cons]
      refine wpAny_bind (wpAny_bind (wpAny_eqBool_tuple (show A.units + 1 < cLine by omega) x2 y2 ?_))
      by_cases e2 : x.2 = y.2
      · rw [decide_eq_true e2]
        simp only [Bool.not_true, Bool.false_eq_true, if_false]
        refine wpAny_pure ?_
        dsimp only
        rw [List.forIn_nil]
        refine wpAny_pure ?_
        rw [decide_eq_true (Prod.ext e1 e2)] at h
        exact wpAny_pure ⟨.bool true, rfl, (fun z => nomatch z), wpAny_truthy_bool h⟩
      · rw [decide_eq_false e2]
        simp only [Bool.not_false, if_true]
        refine wpAny_bind (wpAny_pure (wpAny_pure (wpAny_pure ?_)))
        refine wpAny_pure ?_
        exact ⟨.bool false, rfl, (fun z => nomatch z), no rfl (decide_eq_false fun z => e2 (congrArg Prod.snd z))⟩
    · rw [decide_eq_false e1]
      simp only [Bool.not_false, if_true]
      refine wpAny_bind (wpAny_pure (wpAny_pure (wpAny_pure ?_)))
      refine wpAny_pure ?_
      exact ⟨.bool false, rfl, (fun z => nomatch z), no rfl (decide_eq_false fun z => e1 (congrArg Prod.fst z))⟩
theorem quiet_7 {k : List Int} {b : Addr} {Q : Bool → Shared → Prop} (hk : IsT P w s.heap k b) (h : Q true s) : wpAny (model P w) A (eqIsQuiet 7 (.ref b)) Q E s := by
  have hT := hk.typeIs
  obtain ⟨o, its, n, ho, _, hd, hi⟩ := hk
  unfold eqIsQuiet
  refine wpAny_bind (wpAny_specialOf hT F.slot_tuple_eq.lookup ?_)
  show wpAny _ _ (isInstance (.ref b) (.type "tuple") >>= _) _ _ s
  refine wpAny_bind (wpAny_isInstance hT isSubtype_tuple_tuple ?_)
  simp only [Bool.not_true, Bool.false_eq_true, if_false]
  refine wpAny_bind (wpAny_seqItems ho hd ?_)
  refine wpAny_bind ?_
  show wpAny _ _ (forIn its _ _) _ _ s
  rw [← Array.forIn_toList]
  refine wpAny_forIn_list _ (fun rest r s' => r.1 = none ∧ s' = s ∧ ∀ v ∈ rest, carriedByValue v = true) _ (fun v rest r s' hr => ?_) (fun r s' hr => ?_) _ _ ⟨rfl, rfl, hi.byValue⟩
  · obtain ⟨r1, rfl, all⟩ := hr
    rw [eqIsQuiet_byValue _ (all v List.mem_cons_self)]
    refine wpAny_bind (wpAny_pure ?_)
    simp only [Bool.not_true, Bool.false_eq_true, if_false]
    exact wpAny_pure ⟨rfl, rfl, fun u hu => all u (List.mem_cons_of_mem _ hu)⟩
  · obtain ⟨r1, r2⟩ := r
    obtain ⟨e, rfl, _⟩ := hr
    have e : r1 = none := e
    subst e
    exact wpAny_pure h
theorem pQuiet {k : PrK} {a : Addr} {Q : Bool → Shared → Prop} (hk : IsP P w s.heap k a) (h : Q true s) : wpAny (model P w) A (eqIsQuiet 8 (.ref a)) Q E s := by
  have hT := hk.typeIs
  obtain ⟨o, p, q, n, ho, _, hd, h1, h2⟩ := hk
  unfold eqIsQuiet
  refine wpAny_bind (wpAny_specialOf hT F.slot_tuple_eq.lookup ?_)
  show wpAny _ _ (isInstance (.ref a) (.type "tuple") >>= _) _ _ s
  refine wpAny_bind (wpAny_isInstance hT isSubtype_tuple_tuple ?_)
  simp only [Bool.not_true, Bool.false_eq_true, if_false]
  refine wpAny_bind (wpAny_seqItems ho hd ?_)
  refine wpAny_bind ?_
  show wpAny _ _ (forIn #[Value.ref p, Value.ref q] _ _) _ _ s
  rw [← Array.forIn_toList]
  show wpAny _ _ (forIn [Value.ref p, Value.ref q] _ _) _ _ _
  rw [List.forIn_cons]
  refine wpAny_bind (wpAny_bind (quiet_7 h1 ?_))
  simp only [Bool.not_true, Bool.false_eq_true, if_false]
  refine wpAny_pure ?_
  dsimp only
  rw [List.forIn_cons]
  refine wpAny_bind (wpAny_bind (quiet_7 h2 ?_))
  simp only [Bool.not_true, Bool.false_eq_true, if_false]
  refine wpAny_pure ?_
  dsimp only
  rw [List.forIn_nil]
  exact wpAny_pure (wpAny_pure h)
end
/-- pairs of tuples as keys -/
def pairK (P : Program) (w : World) : HeapKind P w PrK where
  is := IsP P w
  hash := pHash P w
  draws := fun k => k.1.length + k.2.length + 3
  room := fun A => A.units + 4 < cLine
  inj := IsP.inj
  keeps := fun x ho hd hs => x.stay fun b o its n hb ho' => (hs.2 b (by
    rintro rfl
    rw [ho] at hb
    obtain rfl := Option.some.inj hb
    rw [hd] at ho'
    exact nomatch ho')).trans hb
  pyHash := pHash_run
  eqBool := pEq_run
  quiet := pQuiet
/-- one of its entries: the values are True -/
def pEnt (P : Program) (w : World) (x : PrK × Addr) : DictEntry := entryOfKey (pairK P w) (x.1, x.2, .bool true)
/-- a dict of pairs stands at a -/
structure PP0 (h : Heap) (a : Addr) (ks : List PrK) (bs : List Addr) : Prop where
  ex : ∃ (P : Program) (w : World) (o : Obj) (es : Array DictEntry) (ep : Nat), h.get? a = some o ∧ o.ExactDict ∧ o.data = .dict es ep ∧ es.toList = (ks.zip bs).map (pEnt P w)
  nd : ks.Nodup
  ln : ks.length = bs.length
  ns : (a == sysModules) = false
def PPO (a : Addr) (ks : List PrK) (bs : List Addr) : HO := .ext fun h => PP0 h a ks bs
theorem PP0.dict {h : Heap} {a : Addr} {ks : List PrK} {bs : List Addr} (R : PP0 h a ks bs) (P : Program) (w : World) (tp : ∀ x ∈ ks.zip bs, IsP P w h x.1 x.2) : h.DictOfH (pairK P w) a ((ks.zip bs).map fun x => (x.1, x.2, .bool true)) := by
  obtain ⟨P', w', o, es, ep, ho, hc, hd, he⟩ := R.ex
  refine ⟨o, es, ep, ho, hc, hd, ?_, fun x hx => ?_, ?_⟩
  · rw [he, List.map_map]
    exact List.map_congr_left fun x _ => by
      show pEnt P' w' x = pEnt P w x
      unfold pEnt entryOfKey
      rfl
  · obtain ⟨y, hy, rfl⟩ := List.mem_map.mp hx
    exact tp y hy
  · rw [List.map_map]
    have : ((fun x : PrK × Addr × Value => x.1) ∘ fun x : PrK × Addr => (x.1, x.2, Value.bool true)) = Prod.fst := rfl
    rw [this, List.map_fst_zip (Nat.le_of_eq R.ln)]
    exact R.nd
theorem PP0.of {h : Heap} {a : Addr} {ks : List PrK} {bs : List Addr} {P : Program} {w : World} (D : h.DictOfH (pairK P w) a ((ks.zip bs).map fun x => (x.1, x.2, .bool true))) (ln : ks.length = bs.length) (ns : (a == sysModules) = false) : PP0 h a ks bs := by
  obtain ⟨o, es, ep, ho, hc, hd, he, _, nd⟩ := D
  refine ⟨⟨P, w, o, es, ep, ho, hc, hd, ?_⟩, ?_, ln, ns⟩
  · rw [he, List.map_map]
    rfl
  · rw [List.map_map] at nd
    have : ((fun x : PrK × Addr × Value => x.1) ∘ fun x : PrK × Addr => (x.1, x.2, Value.bool true)) = Prod.fst := rfl
    rw [this, List.map_fst_zip (Nat.le_of_eq ln)] at nd
    exact nd
end SX
/-! D layer, part 1: data values, the store of mutable objects, how they stand in the abstract heap; judgements over data. -/
namespace DL
open PySem PySem.Spec PyProof.Rows L2

/-- a nested def's words; the names that it captures -/
structure CT where
  name : Str
  qual : Str
  params : Arguments
  body : List Stmt
  scope : Scope
  fr : List Str
/-- a value as data: tuples and unchanging lists are trees; ref i is the i-th mutable object -/
inductive DV where
  | non | bl (b : Bool) | int (i : Int) | str (x : Str) | ty (n : String) | adr (a : Addr) | cls (n : Str) | ref (i : Nat) | dct | dcx
  | tup (ds : List DV) | lst (ds : List DV) | frz (ds : List DV) | ins (C : Str) (f : Str) (d : DV)
  | act (A0 : List Addr) (G0 : Hp) (f c : Addr) (q : Str) | exc (C : Str) | clo (T : CT) (ds : List DV)
/-- a mutable object -/
inductive DO where
  | lst (ds : List DV) | ins (C : Str) (fs : List (Str × DV)) | dct (kvs : List (List Int × DV)) | pp (ks : List SX.PrK)
abbrev Store := List (Option DO)
abbrev DEnv := List (Option DV)
structure Exn where
  cls : Str
  fs : Option (List (Str × DV))
/-- where the mutable objects stand; what is never changed; what is kept apart for now -/
structure AG where
  A : List Addr
  G : Hp
  F : Hp
  T : List (Addr × Str)
structure Ext (Γ Γ' : AG) : Prop where
  pre : ∃ B, Γ'.A = Γ.A ++ B
  sub : ∀ a o, Γ.G a = some o → Γ'.G a = some o
  eqF : Γ'.F = Γ.F
  eqT : Γ'.T = Γ.T
theorem Ext.refl (Γ : AG) : Ext Γ Γ := ⟨⟨[], by simp⟩, fun _ _ h => h, rfl, rfl⟩
theorem Ext.trans {Γ Γ1 Γ2 : AG} (h : Ext Γ Γ1) (g : Ext Γ1 Γ2) : Ext Γ Γ2 := by
  obtain ⟨⟨B, e1⟩, s1, f1, t1⟩ := h
  obtain ⟨⟨B', e2⟩, s2, f2, t2⟩ := g
  exact ⟨⟨B ++ B', by rw [e2, e1, List.append_assoc]⟩, fun a o q => s2 a o (s1 a o q), by rw [f2, f1], by rw [t2, t1]⟩
theorem Ext.at {Γ Γ' : AG} (h : Ext Γ Γ') {i : Nat} {a : Addr} (e : Γ.A[i]? = some a) : Γ'.A[i]? = some a := by
  obtain ⟨⟨B, eB⟩, _, _, _⟩ := h
  rw [eB, List.getElem?_append_left (List.getElem?_eq_some_iff.mp e).1]
  exact e

/-- the object at c is a code object of the name q -/
def CodeO (c : Addr) (q : Str) : HO := .ext fun h => ∃ (oc : Obj) (vs : Array Value) (t : Tok), h.get? c = some oc ∧ oc.data = .fields vs ∧ vs[1]? = some (.str q t)
/-- a def's code object, its table -/
def codeF (K : PySem.W.Frag) (x : Str) : Addr := match K.lookup (He.ga K x) with
  | some ⟨_, _, .func fd, _⟩ => (match fd.code with
    | .ref c => c
    | _ => 0)
  | _ => 0
def tabF (K : PySem.W.Frag) (c : Addr) : Addr := match K.lookup c with
  | some ⟨_, _, .fields vs, _⟩ => (match vs.getD 11 .none with
    | .ref P => P
    | _ => 0)
  | _ => 0
/-- the name of a lambda of the def x -/
def lamQ (x : Str) : Str := (x ++ ".<locals>.") ++ "<lambda>"
/-- the tables of the defs that make lambdas, or another def -/
def tabs (K : PySem.W.Frag) : List (Addr × Str) := ([("law", lamQ "law"), ("_law_deed", lamQ "_law_deed"), ("_law_work", ("_law_work" ++ ".<locals>.") ++ "_law_did")] : List (Str × Str)).filterMap fun x =>
  if PySem.W.codeHdIn K (codeF K x.1) (tabF K (codeF K x.1)) = true ∧ K.lookup (tabF K (codeF K x.1)) = none then some (tabF K (codeF K x.1), x.2) else none
/-- a cell that is no more written -/
def CellE (c : Addr) (u : V) : HO := .ext fun h => ∃ w, L2.RelV u w ∧ h.IsCell c (some w)
/-- the captured cells, what they hold -/
structure CloC (G : Hp) (cl : List (Str × Addr)) (fr : List Str) (us : List V) : Prop where
  len : us.length = fr.length
  at_ : ∀ (i : Nat) (y : Str) (u : V), fr[i]? = some y → us[i]? = some u → ∃ c, cl.lookup y = some c ∧ G c = some (CellE c u)
  of : ∀ y c, cl.lookup y = some c → y ∈ fr
  inj : ∀ x y c, cl.lookup x = some c → cl.lookup y = some c → x = y
theorem CloC.mono {G G' : Hp} {cl : List (Str × Addr)} {fr : List Str} {us : List V} (h : CloC G cl fr us) (s : ∀ a o, G a = some o → G' a = some o) : CloC G' cl fr us :=
  ⟨h.len, fun i y u e1 e2 => by
    obtain ⟨c, e3, e4⟩ := h.at_ i y u e1 e2
    exact ⟨c, e3, s _ _ e4⟩, h.of, h.inj⟩
def CT.nf (T : CT) (cl : List (Str × Addr)) (c : Addr) : NdefX.NF := ⟨T.name, T.qual, T.params, T.body, T.scope, cl, c⟩
/-- an exception that nobody raised, of the class cls, its dict -/
def ExV (cls : Value) (d : Option Addr) (a : Addr) : HO := .ext fun h => ∃ (oe : Obj) (vs : Array Value), h.get? a = some oe ∧ Zc cls d oe ∧ oe.data = .fields vs
mutual
def RVa (K : PySem.W.Frag) (A : List Addr) (G : Hp) : DV → V → Prop
  | .non, v => v = .non
  | .bl b, v => v = .bl b
  | .int i, v => v = .int i
  | .str x, v => v = .str x
  | .ty n, v => v = .ty n
  | .adr a, v => v = .ref a
  | .cls n, v => v = .ref (He.ga K n)
  | .ref i, v => ∃ a, A[i]? = some a ∧ v = .ref a
  | .dct, v => ∃ p, v = .ref p ∧ G p = some (.dK [])
  | .dcx, v => ∃ p kvs, v = .ref p ∧ G p = some (.dK kvs)
  | .tup ds, v => ∃ p vs, v = .ref p ∧ G p = some (.tup vs) ∧ RVsa K A G ds vs
  | .lst ds, v => ∃ p vs, v = .ref p ∧ G p = some (.lst vs) ∧ RVsa K A G ds vs
  | .frz ds, v => ∃ p vs, v = .ref p ∧ SqL K G p vs ∧ RVsa K A G ds vs
  | .act A0 G0 f c q, v => v = .ref f ∧ G c = some (CodeO c q) ∧ (∃ B, A = A0 ++ B) ∧ ∀ a o, G0 a = some o → G a = some o
  | .exc C, v => ∃ a d, v = .ref a ∧ G a = some (ExV (.ref (He.ga K C)) d a) ∧ ∀ dd, d = some dd → ∃ gs, G dd = some (.xd gs)
  | .clo T ds, v => ∃ f cl c us, v = .ref f ∧ G f = some (NdefX.FnO f (T.nf cl c)) ∧ G c = some (CodeO c T.qual) ∧ CloC G cl T.fr us ∧ RVsa K A G ds us
  | .ins C f d, v => ∃ p dx u, v = .ref p ∧ G p = some (.ins (He.ga K C) dx [(f, u)]) ∧ RVa K A G d u
def RVsa (K : PySem.W.Frag) (A : List Addr) (G : Hp) : List DV → List V → Prop
  | [], vs => vs = []
  | d :: ds, vs => ∃ v us, vs = v :: us ∧ RVa K A G d v ∧ RVsa K A G ds us
end
abbrev RV (K : PySem.W.Frag) (Γ : AG) : DV → V → Prop := RVa K Γ.A Γ.G
abbrev RVs (K : PySem.W.Frag) (Γ : AG) : List DV → List V → Prop := RVsa K Γ.A Γ.G
def RFsa (K : PySem.W.Frag) (A : List Addr) (G : Hp) : List (Str × DV) → List (Str × V) → Prop
  | [], gs => gs = []
  | (f, d) :: fs, gs => ∃ v hs, gs = (f, v) :: hs ∧ RVa K A G d v ∧ RFsa K A G fs hs
abbrev RFs (K : PySem.W.Frag) (Γ : AG) : List (Str × DV) → List (Str × V) → Prop := RFsa K Γ.A Γ.G
def RDsa (K : PySem.W.Frag) (A : List Addr) (G : Hp) : List (List Int × DV) → List (List Key × V) → Prop
  | [], gs => gs = []
  | (f, d) :: fs, gs => ∃ v hs, gs = (f.map Sum.inl, v) :: hs ∧ RVa K A G d v ∧ RDsa K A G fs hs
abbrev RDs (K : PySem.W.Frag) (Γ : AG) : List (List Int × DV) → List (List Key × V) → Prop := RDsa K Γ.A Γ.G
/-- a pair of tuples of ints -/
def prV (k : SX.PrK) : DV := .tup [.tup (k.1.map DV.int), .tup (k.2.map DV.int)]
/-- an object as data, what stands at its address -/
def ROa (K : PySem.W.Frag) (A : List Addr) (G : Hp) : DO → Option HO → Prop
  | .lst ds, o => ∃ vs, o = some (.lst vs) ∧ RVsa K A G ds vs
  | .ins C fs, o => ∃ dx gs, o = some (.ins (He.ga K C) dx gs) ∧ RFsa K A G fs gs
  | .dct kvs, o => ∃ gs, o = some (.dT gs) ∧ RDsa K A G kvs gs
  | .pp ks, o => ∃ a bs, o = some (SX.PPO a ks bs) ∧ RVsa K A G (ks.map prV) (bs.map V.ref)
abbrev RO (K : PySem.W.Frag) (Γ : AG) : DO → Option HO → Prop := ROa K Γ.A Γ.G
def RX (K : PySem.W.Frag) (Γ : AG) (x : Exn) (c : Value) (d : Option Addr) : Prop :=
  c = .ref (He.ga K x.cls) ∧ match x.fs with
    | none => d = none
    | some fs => ∃ dd gs, d = some dd ∧ Γ.G dd = some (.xd gs) ∧ RFs K Γ fs gs

section
variable {K : PySem.W.Frag} {Γ Γ' : AG}
theorem sqT_sub {G G' : Hp} {p : Addr} {vs : List V} (h : ∀ a o, G a = some o → G' a = some o) (q : SqT K G p vs) : SqT K G' p vs := by
  rcases q with (q | ⟨o, q⟩) | q
  · exact .inl (.inl (h _ _ q))
  · exact .inl (.inr ⟨o, h _ _ q⟩)
  · exact .inr q
theorem sqL_sub {G G' : Hp} {p : Addr} {vs : List V} (h : ∀ a o, G a = some o → G' a = some o) (q : SqL K G p vs) : SqL K G' p vs := by
  rcases q with (q | ⟨o, q⟩) | q
  · exact .inl (.inl (h _ _ q))
  · exact .inl (.inr ⟨o, h _ _ q⟩)
  · exact .inr q
mutual
theorem RV.mono (e : Ext Γ Γ') : ∀ (d : DV) (v : V), RV K Γ d v → RV K Γ' d v
  | .non, v, h => h
  | .bl b, v, h => h
  | .int i, v, h => h
  | .str x, v, h => h
  | .ty n, v, h => h
  | .adr a, v, h => h
  | .cls n, v, h => h
  | .ref i, v, h => by
    obtain ⟨a, h1, h2⟩ := h
    exact ⟨a, e.at h1, h2⟩
  | .dct, v, h => by
    obtain ⟨p, h1, h2⟩ := h
    exact ⟨p, h1, e.sub _ _ h2⟩
  | .dcx, v, h => by
    obtain ⟨p, kvs, h1, h2⟩ := h
    exact ⟨p, kvs, h1, e.sub _ _ h2⟩
  | .tup ds, v, h => by
    obtain ⟨p, vs, h1, h2, h3⟩ := h
    exact ⟨p, vs, h1, e.sub _ _ h2, RVs.mono e ds vs h3⟩
  | .lst ds, v, h => by
    obtain ⟨p, vs, h1, h2, h3⟩ := h
    exact ⟨p, vs, h1, e.sub _ _ h2, RVs.mono e ds vs h3⟩
  | .frz ds, v, h => by
    obtain ⟨p, vs, h1, h2, h3⟩ := h
    exact ⟨p, vs, h1, sqL_sub e.sub h2, RVs.mono e ds vs h3⟩
  | .act A0 G0 f c q, v, h => by
    obtain ⟨h1, h2, ⟨B, h3⟩, h4⟩ := h
    obtain ⟨B2, h5⟩ := e.pre
    exact ⟨h1, e.sub _ _ h2, ⟨B ++ B2, by rw [h5, h3, List.append_assoc]⟩, fun a o q => e.sub _ _ (h4 a o q)⟩
  | .exc C, v, h => by
    obtain ⟨a, d, h1, h2, h3⟩ := h
    exact ⟨a, d, h1, e.sub _ _ h2, fun dd z => by
      obtain ⟨gs, q⟩ := h3 dd z
      exact ⟨gs, e.sub _ _ q⟩⟩
  | .clo T ds, v, h => by
    obtain ⟨f, cl, c, us, h1, h2, h3, h4, h5⟩ := h
    exact ⟨f, cl, c, us, h1, e.sub _ _ h2, e.sub _ _ h3, h4.mono e.sub, RVs.mono e ds us h5⟩
  | .ins C f d, v, h => by
    obtain ⟨p, dx, u, h1, h2, h3⟩ := h
    exact ⟨p, dx, u, h1, e.sub _ _ h2, RV.mono e d u h3⟩
theorem RVs.mono (e : Ext Γ Γ') : ∀ (ds : List DV) (vs : List V), RVs K Γ ds vs → RVs K Γ' ds vs
  | [], vs, h => h
  | d :: ds, vs, h => by
    obtain ⟨v, us, h1, h2, h3⟩ := h
    exact ⟨v, us, h1, RV.mono e d v h2, RVs.mono e ds us h3⟩
end
theorem RFs.mono (e : Ext Γ Γ') : ∀ (ds : List (Str × DV)) (vs : List (Str × V)), RFs K Γ ds vs → RFs K Γ' ds vs
  | [], vs, h => h
  | (f, d) :: ds, vs, h => by
    obtain ⟨v, us, h1, h2, h3⟩ := h
    exact ⟨v, us, h1, RV.mono e d v h2, RFs.mono e ds us h3⟩
theorem RDs.mono (e : Ext Γ Γ') : ∀ (ds : List (List Int × DV)) (vs : List (List Key × V)), RDs K Γ ds vs → RDs K Γ' ds vs
  | [], vs, h => h
  | (f, d) :: ds, vs, h => by
    obtain ⟨v, us, h1, h2, h3⟩ := h
    exact ⟨v, us, h1, RV.mono e d v h2, RDs.mono e ds us h3⟩
theorem RO.mono (e : Ext Γ Γ') {d : DO} {o : Option HO} (h : RO K Γ d o) : RO K Γ' d o := by
  cases d with
  | lst ds =>
    obtain ⟨vs, h1, h2⟩ := h
    exact ⟨vs, h1, RVs.mono e _ _ h2⟩
  | ins C fs =>
    obtain ⟨dx, gs, h1, h2⟩ := h
    exact ⟨dx, gs, h1, RFs.mono e _ _ h2⟩
  | dct kvs =>
    obtain ⟨gs, h1, h2⟩ := h
    exact ⟨gs, h1, RDs.mono e _ _ h2⟩
  | pp ks =>
    obtain ⟨a, bs, h1, h2⟩ := h
    exact ⟨a, bs, h1, RVs.mono e _ _ h2⟩
theorem RX.mono (e : Ext Γ Γ') {x : Exn} {c : Value} {d : Option Addr} (h : RX K Γ x c d) : RX K Γ' x c d := by
  obtain ⟨c0, fs⟩ := x
  obtain ⟨h1, h2⟩ := h
  refine ⟨h1, ?_⟩
  cases fs with
  | none => exact h2
  | some fs =>
    obtain ⟨dd, gs, h3, h4, h5⟩ := h2
    exact ⟨dd, gs, h3, e.sub _ _ h4, RFs.mono e _ _ h5⟩
theorem RVs.length : ∀ {ds : List DV} {vs : List V}, RVs K Γ ds vs → ds.length = vs.length
  | [], vs, h => by
    have e : vs = [] := h
    subst e
    rfl
  | d :: ds, vs, h => by
    obtain ⟨v, us, h1, h2, h3⟩ := h
    rw [h1, List.length_cons, List.length_cons, RVs.length h3]
theorem RVs.get : ∀ {ds : List DV} {vs : List V} {i : Nat} {d : DV}, RVs K Γ ds vs → ds[i]? = some d → ∃ v, vs[i]? = some v ∧ RV K Γ d v
  | [], vs, i, d, h, e => by simp at e
  | c :: ds, vs, 0, d, h, e => by
    obtain ⟨v, us, h1, h2, h3⟩ := h
    have e2 : c = d := by simpa using e
    subst e2
    exact ⟨v, by rw [h1]; rfl, h2⟩
  | c :: ds, vs, i + 1, d, h, e => by
    obtain ⟨v, us, h1, h2, h3⟩ := h
    obtain ⟨w, h4, h5⟩ := RVs.get (i := i) h3 (by simpa using e)
    exact ⟨w, by rw [h1]; simpa using h4, h5⟩
theorem RVs.append : ∀ {ds es : List DV} {vs us : List V}, RVs K Γ ds vs → RVs K Γ es us → RVs K Γ (ds ++ es) (vs ++ us)
  | [], es, vs, us, h, g => by
    have e : vs = [] := h
    rw [e]
    exact g
  | d :: ds, es, vs, us, h, g => by
    obtain ⟨v, ws, h1, h2, h3⟩ := h
    exact ⟨v, ws ++ us, by rw [h1]; rfl, h2, RVs.append h3 g⟩
theorem RVs.take : ∀ {ds : List DV} {vs : List V} (n : Nat), RVs K Γ ds vs → RVs K Γ (ds.take n) (vs.take n)
  | _, vs, 0, h => rfl
  | [], vs, n + 1, h => by
    have e : vs = [] := h
    rw [e]
    rfl
  | d :: ds, vs, n + 1, h => by
    obtain ⟨v, us, h1, h2, h3⟩ := h
    exact ⟨v, us.take n, by rw [h1]; rfl, h2, RVs.take n h3⟩
theorem RVs.drop : ∀ {ds : List DV} {vs : List V} (n : Nat), RVs K Γ ds vs → RVs K Γ (ds.drop n) (vs.drop n)
  | _, vs, 0, h => h
  | [], vs, n + 1, h => by
    have e : vs = [] := h
    rw [e]
    rfl
  | d :: ds, vs, n + 1, h => by
    obtain ⟨v, us, h1, h2, h3⟩ := h
    rw [h1]
    exact RVs.drop n h3
theorem RVs.snoc {ds : List DV} {vs : List V} {d : DV} {v : V} (h : RVs K Γ ds vs) (g : RV K Γ d v) : RVs K Γ (ds ++ [d]) (vs ++ [v]) :=
  h.append ⟨v, [], rfl, g, rfl⟩
theorem RVs.reverse : ∀ {ds : List DV} {vs : List V}, RVs K Γ ds vs → RVs K Γ ds.reverse vs.reverse
  | [], vs, h => by
    have e : vs = [] := h
    rw [e]
    rfl
  | d :: ds, vs, h => by
    obtain ⟨v, us, h1, h2, h3⟩ := h
    rw [h1, List.reverse_cons, List.reverse_cons]
    exact (RVs.reverse h3).snoc h2
theorem RVs.ints : ∀ {ns : List Int} {vs : List V}, RVs K Γ (ns.map DV.int) vs → vs = ns.map V.int
  | [], vs, h => h
  | n :: ns, vs, h => by
    obtain ⟨v, us, h1, h2, h3⟩ := h
    have e : v = V.int n := h2
    rw [h1, e, RVs.ints h3]
    rfl
end

/-- a table of code objects that all bear the name q -/
def TabO (G : Hp) (q : Str) (o : Option HO) : Prop := ∃ ps : Array Value, o = some (.tbl ps) ∧ TriplesOk ps.toList ∧ ∀ (pos : Pos) (cv : Value), codeAmong pos ps.toList = some cv → ∃ c, cv = .ref c ∧ G c = some (CodeO c q)
theorem TabO.sub {G G' : Hp} {q : Str} {o : Option HO} (h : TabO G q o) (s : ∀ a u, G a = some u → G' a = some u) : TabO G' q o := by
  obtain ⟨ps, h1, h2, h3⟩ := h
  exact ⟨ps, h1, h2, fun pos cv hc => by
    obtain ⟨c, e1, e2⟩ := h3 pos cv hc
    exact ⟨c, e1, s _ _ e2⟩⟩
/-- the store over the abstract heap -/
structure Rs (K : PySem.W.Frag) (Γ : AG) (S : Store) (H : Hp) : Prop where
  sub : ∀ a o, Γ.G a = some o → H a = some o
  len : Γ.A.length = S.length
  obj : ∀ (i : Nat) (o : DO), S[i]? = some (some o) → ∃ a, Γ.A[i]? = some a ∧ Γ.G a = none ∧ RO K Γ o (H a)
  fsub : ∀ a o, Γ.F a = some o → H a = some o
  fdis : ∀ a o, Γ.F a = some o → Γ.G a = none
  fapt : ∀ (i : Nat) (a : Addr) (o : DO), S[i]? = some (some o) → Γ.A[i]? = some a → Γ.F a = none
  inj : ∀ (i j : Nat) (a : Addr) (o u : DO), S[i]? = some (some o) → S[j]? = some (some u) → Γ.A[i]? = some a → Γ.A[j]? = some a → i = j
  tab : ∀ p ∈ tabs K, TabO Γ.G p.2 (H p.1) ∧ Γ.G p.1 = none ∧ Γ.F p.1 = none
  fnt : ∀ a o, Γ.F a = some o → ∀ xs, o ≠ .tup xs
structure Cf (K : PySem.W.Frag) (Γ : AG) (S : Store) (H : Hp) (δ : DEnv) (σ : L2.St) : Prop where
  rs : Rs K Γ S H
  len : δ.length = σ.length
  ls : ∀ (i : Nat) (d : DV), δ[i]? = some (some d) → ∃ v, σ[i]? = some (some v) ∧ RV K Γ d v

section
variable {K : PySem.W.Frag} {Γ Γ' : AG} {S S' : Store} {H H' : Hp} {δ δ' : DEnv} {σ σ' : L2.St} {p : Addr} {o : HO}
theorem RO.is {d : DO} {o : Option HO} (h : RO K Γ d o) : o ≠ none := by
  cases d with
  | lst ds =>
    obtain ⟨vs, h1, h2⟩ := h
    rw [h1]
    exact fun e => nomatch e
  | ins C fs =>
    obtain ⟨dx, gs, h1, h2⟩ := h
    rw [h1]
    exact fun e => nomatch e
  | dct kvs =>
    obtain ⟨gs, h1, h2⟩ := h
    rw [h1]
    exact fun e => nomatch e
  | pp ks =>
    obtain ⟨a, bs, h1, h2⟩ := h
    rw [h1]
    exact fun e => nomatch e
/-- a new object that never changes -/
theorem Ext.laid (hp : Γ.G p = none) : Ext Γ ⟨Γ.A, upd Γ.G p o, Γ.F, Γ.T⟩ :=
  ⟨⟨[], by simp⟩, fun a u e => by
    show upd Γ.G p o a = some u
    rw [upd_ne (ne_of_none e hp)]
    exact e, rfl, rfl⟩
theorem Rs.noG (R : Rs K Γ S H) (hp : H p = none) : Γ.G p = none := by
  cases e : Γ.G p with
  | none => rfl
  | some u =>
    rw [R.sub p u e] at hp
    cases hp
theorem Rs.noF (R : Rs K Γ S H) (hp : H p = none) : Γ.F p = none := by
  cases e : Γ.F p with
  | none => rfl
  | some u =>
    rw [R.fsub p u e] at hp
    cases hp
theorem Rs.ext (R : Rs K Γ S H) (hp : H p = none) (o : HO) : Ext Γ ⟨Γ.A, upd Γ.G p o, Γ.F, Γ.T⟩ := Ext.laid (R.noG hp)
theorem TabO.ne {G : Hp} {q : Str} {a : Addr} (h : TabO G q (H a)) (hp : H p = none) : a ≠ p := fun e => by
  obtain ⟨ps, e1, _⟩ := h
  rw [e, hp] at e1
  cases e1
theorem RO.ntab {d : DO} {o : Option HO} {G : Hp} {q : Str} (h : RO K Γ d o) (g : TabO G q o) : False := by
  obtain ⟨ps, e, _⟩ := g
  cases d with
  | lst ds =>
    obtain ⟨vs, h1, h2⟩ := h
    rw [e] at h1
    cases h1
  | ins C fs =>
    obtain ⟨dx, gs, h1, h2⟩ := h
    rw [e] at h1
    cases h1
  | dct kvs =>
    obtain ⟨gs, h1, h2⟩ := h
    rw [e] at h1
    cases h1
  | pp ks =>
    obtain ⟨a, bs, h1, h2⟩ := h
    rw [e] at h1
    cases h1
theorem Rs.laid (R : Rs K Γ S H) (hp : H p = none) (o : HO) : Rs K ⟨Γ.A, upd Γ.G p o, Γ.F, Γ.T⟩ S (upd H p o) where
  sub := fun a u e => by
    have e' : upd Γ.G p o a = some u := e
    by_cases h : a = p
    · subst h
      rw [upd_same] at e'
      rw [upd_same]
      exact e'
    · rw [upd_ne h] at e'
      rw [upd_ne h]
      exact R.sub a u e'
  len := R.len
  obj := fun i u e => by
    obtain ⟨a, h1, h2, h3⟩ := R.obj i u e
    have hne : a ≠ p := fun q => by
      subst q
      exact h3.is hp
    refine ⟨a, h1, ?_, ?_⟩
    · show upd Γ.G p o a = none
      rw [upd_ne hne]
      exact h2
    · rw [upd_ne hne]
      exact h3.mono (R.ext hp o)
  inj := R.inj
  fsub := fun a u e => by
    rw [upd_ne (ne_of_none (R.fsub a u e) hp)]
    exact R.fsub a u e
  fdis := fun a u e => by
    show upd Γ.G p o a = none
    rw [upd_ne (ne_of_none (R.fsub a u e) hp)]
    exact R.fdis a u e
  fapt := R.fapt
  fnt := R.fnt
  tab := fun q hq => by
    obtain ⟨h1, h2, h3⟩ := R.tab q hq
    have hne := h1.ne hp
    refine ⟨?_, ?_, h3⟩
    · rw [upd_ne hne]
      exact h1.sub (R.ext hp o).sub
    · show upd Γ.G p o q.1 = none
      rw [upd_ne hne]
      exact h2
/-- a new mutable object -/
theorem Ext.push (a : Addr) : Ext Γ ⟨Γ.A ++ [a], Γ.G, Γ.F, Γ.T⟩ := ⟨⟨[a], rfl⟩, fun _ _ e => e, rfl, rfl⟩
theorem Rs.push (R : Rs K Γ S H) (hp : H p = none) {d : DO} (ho : RO K Γ d (some o)) : Rs K ⟨Γ.A ++ [p], Γ.G, Γ.F, Γ.T⟩ (S ++ [some d]) (upd H p o) where
  sub := fun a u e => by
    rw [upd_ne (ne_of_none (R.sub a u e) hp)]
    exact R.sub a u e
  len := by
    show (Γ.A ++ [p]).length = (S ++ [some d]).length
    rw [List.length_append, List.length_append, R.len]
    rfl
  obj := fun i u e => by
    by_cases hi : i < S.length
    · rw [List.getElem?_append_left hi] at e
      obtain ⟨a, h1, h2, h3⟩ := R.obj i u e
      have hne : a ≠ p := fun q => by
        subst q
        exact h3.is hp
      refine ⟨a, (Ext.push p).at h1, h2, ?_⟩
      rw [upd_ne hne]
      exact h3.mono (Ext.push p)
    · rw [List.getElem?_append_right (by omega)] at e
      have hz : i - S.length = 0 := by
        have := (List.getElem?_eq_some_iff.mp e).1
        simp at this
        omega
      rw [hz] at e
      have e2 : d = u := by simpa using e
      subst e2
      refine ⟨p, ?_, R.noG hp, ?_⟩
      · show (Γ.A ++ [p])[i]? = some p
        rw [List.getElem?_append_right (by rw [R.len]; omega), R.len, hz]
        rfl
      · rw [upd_same]
        exact ho.mono (Ext.push p)
  fsub := fun a u e => by
    rw [upd_ne (ne_of_none (R.fsub a u e) hp)]
    exact R.fsub a u e
  tab := fun q hq => by
    obtain ⟨h1, h2, h3⟩ := R.tab q hq
    have hne := h1.ne hp
    refine ⟨?_, h2, h3⟩
    rw [upd_ne hne]
    exact h1
  fdis := R.fdis
  fnt := R.fnt
  fapt := fun i a u e ha => by
    by_cases hi : i < S.length
    · rw [List.getElem?_append_left hi] at e
      have ha' : (Γ.A ++ [p])[i]? = some a := ha
      rw [List.getElem?_append_left (by rw [R.len]; exact hi)] at ha'
      exact R.fapt i a u e ha'
    · have h2 := (List.getElem?_eq_some_iff.mp e).1
      rw [List.length_append] at h2
      have h3 : i = S.length := by simp at h2; omega
      have ha' : (Γ.A ++ [p])[i]? = some a := ha
      rw [List.getElem?_append_right (by rw [R.len]; omega), R.len, h3] at ha'
      have e2 : some p = some a := by simpa using ha'
      cases e2
      exact R.noF hp
  inj := fun i j a u w ei ej hi hj => by
    have key : ∀ {k : Nat} {x : DO}, (S ++ [some d])[k]? = some (some x) → (Γ.A ++ [p])[k]? = some a → (k < S.length ∧ S[k]? = some (some x) ∧ Γ.A[k]? = some a ∧ a ≠ p) ∨ (k = S.length ∧ a = p) := by
      intro k x ek hk
      by_cases hl : k < S.length
      · rw [List.getElem?_append_left hl] at ek
        rw [List.getElem?_append_left (by rw [R.len]; exact hl)] at hk
        obtain ⟨b, h1, h2, h3⟩ := R.obj k x ek
        rw [hk] at h1
        cases h1
        exact .inl ⟨hl, ek, hk, fun q => by subst q; exact h3.is hp⟩
      · have h2 := (List.getElem?_eq_some_iff.mp ek).1
        rw [List.length_append] at h2
        have h3 : k = S.length := by simp at h2; omega
        rw [List.getElem?_append_right (by rw [R.len]; omega), R.len, h3] at hk
        refine .inr ⟨h3, ?_⟩
        have hk2 : some p = some a := by simpa using hk
        exact (Option.some.inj hk2).symm
    rcases key ei hi with ⟨h1, h2, h3, h4⟩ | ⟨h1, h2⟩
    · rcases key ej hj with ⟨g1, g2, g3, g4⟩ | ⟨g1, g2⟩
      · exact R.inj i j a u w h2 g2 h3 g3
      · exact absurd g2 h4
    · rcases key ej hj with ⟨g1, g2, g3, g4⟩ | ⟨g1, g2⟩
      · exact absurd h2 g4
      · rw [h1, g1]
/-- a mutable object changes -/
theorem Rs.write (R : Rs K Γ S H) {i : Nat} {a : Addr} {d0 d : DO} (hi : S[i]? = some (some d0)) (ha : Γ.A[i]? = some a) (ho : RO K Γ d (some o)) : Rs K Γ (S.set i (some d)) (upd H a o) := by
  obtain ⟨a', h1, h2, h3⟩ := R.obj i d0 hi
  rw [ha] at h1
  cases h1
  have hil : i < S.length := (List.getElem?_eq_some_iff.mp hi).1
  have keyS : ∀ {m : Nat} {x : DO}, (S.set i (some d))[m]? = some (some x) → ∃ y, S[m]? = some (some y) := by
    intro m x em
    by_cases hm : m = i
    · subst hm
      exact ⟨d0, hi⟩
    · rw [List.getElem?_set_ne (Ne.symm hm)] at em
      exact ⟨x, em⟩
  refine ⟨fun b u e => ?_, ?_, fun j u e => ?_, fun b u e => ?_, R.fdis, fun j b u e hb => ?_, fun j k b u w ej ek hj hk => ?_, fun q hq => ?_, R.fnt⟩
  · have hne : b ≠ a := fun q => by
      subst q
      rw [h2] at e
      cases e
    rw [upd_ne hne]
    exact R.sub b u e
  · rw [List.length_set]
    exact R.len
  · by_cases hj : j = i
    · subst hj
      rw [List.getElem?_set_self hil] at e
      cases e
      refine ⟨a, ha, h2, ?_⟩
      rw [upd_same]
      exact ho
    · rw [List.getElem?_set_ne (Ne.symm hj)] at e
      obtain ⟨b, g1, g2, g3⟩ := R.obj j u e
      refine ⟨b, g1, g2, ?_⟩
      have hne : b ≠ a := fun q => by
        subst q
        exact hj (R.inj j i b u d0 e hi g1 ha)
      rw [upd_ne hne]
      exact g3
  · have hne : b ≠ a := fun q => by
      subst q
      rw [R.fapt i b d0 hi ha] at e
      cases e
    rw [upd_ne hne]
    exact R.fsub b u e
  · obtain ⟨y, ey⟩ := keyS e
    exact R.fapt j b y ey hb
  · obtain ⟨y, ey⟩ := keyS ej
    obtain ⟨z, ez⟩ := keyS ek
    exact R.inj j k b y z ey ez hj hk
  · obtain ⟨g1, g2, g3⟩ := R.tab q hq
    have hne : q.1 ≠ a := fun z => by
      rw [z] at g1
      exact h3.ntab g1
    refine ⟨?_, g2, g3⟩
    rw [upd_ne hne]
    exact g1
/-- a mutable object is given up: it never changes from here on -/
theorem Rs.freeze (R : Rs K Γ S H) {i : Nat} {a : Addr} {d0 : DO} {o : HO} (hi : S[i]? = some (some d0)) (ha : Γ.A[i]? = some a) (ho : H a = some o) : Rs K ⟨Γ.A, upd Γ.G a o, Γ.F, Γ.T⟩ (S.set i none) H ∧ Ext Γ ⟨Γ.A, upd Γ.G a o, Γ.F, Γ.T⟩ := by
  obtain ⟨a', h1, h2, h3⟩ := R.obj i d0 hi
  rw [ha] at h1
  cases h1
  have hil : i < S.length := (List.getElem?_eq_some_iff.mp hi).1
  have E : Ext Γ ⟨Γ.A, upd Γ.G a o, Γ.F, Γ.T⟩ := Ext.laid h2
  have keyN : ∀ {m : Nat} {x : DO}, (S.set i none)[m]? = some (some x) → S[m]? = some (some x) := by
    intro m x em
    by_cases hm : m = i
    · subst hm
      rw [List.getElem?_set_self hil] at em
      cases em
    · rw [List.getElem?_set_ne (Ne.symm hm)] at em
      exact em
  refine ⟨⟨fun b u e => ?_, ?_, fun j u e => ?_, R.fsub, fun b u e => ?_, fun j b u e hb => R.fapt j b u (keyN e) hb, fun j k b u w ej ek hj hk => R.inj j k b u w (keyN ej) (keyN ek) hj hk, fun q hq => ?_, R.fnt⟩, E⟩
  · have e' : upd Γ.G a o b = some u := e
    by_cases hb : b = a
    · subst hb
      rw [upd_same] at e'
      rw [ho]
      exact e'
    · rw [upd_ne hb] at e'
      exact R.sub b u e'
  · rw [List.length_set]
    exact R.len
  · have hj : j ≠ i := fun q => by
      subst q
      rw [List.getElem?_set_self hil] at e
      cases e
    rw [List.getElem?_set_ne (Ne.symm hj)] at e
    obtain ⟨b, g1, g2, g3⟩ := R.obj j u e
    have hne : b ≠ a := fun q => by
      subst q
      exact hj (R.inj j i b u d0 e hi g1 ha)
    refine ⟨b, g1, ?_, g3.mono E⟩
    show upd Γ.G a o b = none
    rw [upd_ne hne]
    exact g2
  · show upd Γ.G a o b = none
    have hne : b ≠ a := fun q => by
      subst q
      rw [R.fapt i b d0 hi ha] at e
      cases e
    rw [upd_ne hne]
    exact R.fdis b u e
  · obtain ⟨g1, g2, g3⟩ := R.tab q hq
    have hne : q.1 ≠ a := fun z => by
      rw [z] at g1
      exact h3.ntab g1
    refine ⟨g1.sub E.sub, ?_, g3⟩
    show upd Γ.G a o q.1 = none
    rw [upd_ne hne]
    exact g2
/-- an object kept apart: begun, changed, given to what never changes, given to the store -/
theorem Rs.hold (R : Rs K Γ S H) (hp : H p = none) (o : HO) (ht : ∀ xs, o ≠ .tup xs := by intro xs e; cases e) : Rs K ⟨Γ.A, Γ.G, upd Γ.F p o, Γ.T⟩ S (upd H p o) where
  sub := fun a u e => by
    rw [upd_ne (ne_of_none (R.sub a u e) hp)]
    exact R.sub a u e
  len := R.len
  obj := fun i u e => by
    obtain ⟨a, h1, h2, h3⟩ := R.obj i u e
    have hne : a ≠ p := fun q => by
      subst q
      exact h3.is hp
    refine ⟨a, h1, h2, ?_⟩
    rw [upd_ne hne]
    exact h3
  fsub := fun a u e => by
    have e' : upd Γ.F p o a = some u := e
    by_cases h : a = p
    · subst h
      rw [upd_same] at e'
      rw [upd_same]
      exact e'
    · rw [upd_ne h] at e'
      rw [upd_ne h]
      exact R.fsub a u e'
  fdis := fun a u e => by
    have e' : upd Γ.F p o a = some u := e
    by_cases h : a = p
    · subst h
      exact R.noG hp
    · rw [upd_ne h] at e'
      exact R.fdis a u e'
  fapt := fun i a u e ha => by
    show upd Γ.F p o a = none
    obtain ⟨b, h1, h2, h3⟩ := R.obj i u e
    have hb : Γ.A[i]? = some a := ha
    rw [hb] at h1
    cases h1
    have hne : a ≠ p := fun q => by
      subst q
      exact h3.is hp
    rw [upd_ne hne]
    exact R.fapt i a u e ha
  tab := fun q hq => by
    obtain ⟨h1, h2, h3⟩ := R.tab q hq
    have hne := h1.ne hp
    refine ⟨?_, h2, ?_⟩
    · rw [upd_ne hne]
      exact h1
    · show upd Γ.F p o q.1 = none
      rw [upd_ne hne]
      exact h3
  fnt := fun a u e xs => by
    have e' : upd Γ.F p o a = some u := e
    by_cases h : a = p
    · subst h
      rw [upd_same] at e'
      cases e'
      exact ht xs
    · rw [upd_ne h] at e'
      exact R.fnt a u e' xs
  inj := R.inj
theorem Rs.held (R : Rs K Γ S H) {o0 : HO} (hp : Γ.F p = some o0) (o : HO) (ht : ∀ xs, o ≠ .tup xs := by intro xs e; cases e) : Rs K ⟨Γ.A, Γ.G, upd Γ.F p o, Γ.T⟩ S (upd H p o) where
  sub := fun a u e => by
    have hne : a ≠ p := fun q => by
      subst q
      rw [R.fdis a o0 hp] at e
      cases e
    rw [upd_ne hne]
    exact R.sub a u e
  len := R.len
  obj := fun i u e => by
    obtain ⟨a, h1, h2, h3⟩ := R.obj i u e
    have hne : a ≠ p := fun q => by
      subst q
      rw [R.fapt i a u e h1] at hp
      cases hp
    refine ⟨a, h1, h2, ?_⟩
    rw [upd_ne hne]
    exact h3
  fsub := fun a u e => by
    have e' : upd Γ.F p o a = some u := e
    by_cases h : a = p
    · subst h
      rw [upd_same] at e'
      rw [upd_same]
      exact e'
    · rw [upd_ne h] at e'
      rw [upd_ne h]
      exact R.fsub a u e'
  fdis := fun a u e => by
    have e' : upd Γ.F p o a = some u := e
    by_cases h : a = p
    · subst h
      exact R.fdis a o0 hp
    · rw [upd_ne h] at e'
      exact R.fdis a u e'
  fapt := fun i a u e ha => by
    show upd Γ.F p o a = none
    have hne : a ≠ p := fun q => by
      subst q
      rw [R.fapt i a u e ha] at hp
      cases hp
    rw [upd_ne hne]
    exact R.fapt i a u e ha
  tab := fun q hq => by
    obtain ⟨h1, h2, h3⟩ := R.tab q hq
    have hne : q.1 ≠ p := fun z => by
      rw [z, hp] at h3
      cases h3
    refine ⟨?_, h2, ?_⟩
    · rw [upd_ne hne]
      exact h1
    · show upd Γ.F p o q.1 = none
      rw [upd_ne hne]
      exact h3
  fnt := fun a u e xs => by
    have e' : upd Γ.F p o a = some u := e
    by_cases h : a = p
    · subst h
      rw [upd_same] at e'
      cases e'
      exact ht xs
    · rw [upd_ne h] at e'
      exact R.fnt a u e' xs
  inj := R.inj
theorem Rs.give {F0 : Hp} (R : Rs K Γ S H) {o : HO} (hF : Γ.F = upd F0 p o) (h0 : F0 p = none) : Rs K ⟨Γ.A, upd Γ.G p o, F0, Γ.T⟩ S H := by
  have hp : Γ.F p = some o := by rw [hF]; exact upd_same
  have hG := R.fdis p o hp
  have E : Ext Γ ⟨Γ.A, upd Γ.G p o, Γ.F, Γ.T⟩ := Ext.laid hG
  refine ⟨fun a u e => ?_, R.len, fun i u e => ?_, fun a u e => ?_, fun a u e => ?_, fun i a u e ha => ?_, R.inj, fun q hq => ?_, fun a u e => by
    have e' : F0 a = some u := e
    have hne : a ≠ p := fun q => by
      subst q
      rw [h0] at e'
      cases e'
    exact R.fnt a u (by rw [hF, upd_ne hne]; exact e')⟩
  · have e' : upd Γ.G p o a = some u := e
    by_cases h : a = p
    · subst h
      rw [upd_same] at e'
      rw [R.fsub a o hp]
      exact e'
    · rw [upd_ne h] at e'
      exact R.sub a u e'
  · obtain ⟨a, h1, h2, h3⟩ := R.obj i u e
    have hne : a ≠ p := fun q => by
      subst q
      rw [R.fapt i a u e h1] at hp
      cases hp
    refine ⟨a, h1, ?_, h3.mono E⟩
    show upd Γ.G p o a = none
    rw [upd_ne hne]
    exact h2
  · have e' : F0 a = some u := e
    have hne : a ≠ p := fun q => by
      subst q
      rw [h0] at e'
      cases e'
    refine R.fsub a u ?_
    rw [hF, upd_ne hne]
    exact e'
  · have e' : F0 a = some u := e
    have hne : a ≠ p := fun q => by
      subst q
      rw [h0] at e'
      cases e'
    show upd Γ.G p o a = none
    rw [upd_ne hne]
    refine R.fdis a u ?_
    rw [hF, upd_ne hne]
    exact e'
  · have h := R.fapt i a u e ha
    rw [hF] at h
    have hne : a ≠ p := fun q => by
      subst q
      rw [upd_same] at h
      cases h
    rw [upd_ne hne] at h
    exact h
  · obtain ⟨g1, g2, g3⟩ := R.tab q hq
    have hne : q.1 ≠ p := fun z => by
      rw [z, hp] at g3
      cases g3
    refine ⟨g1.sub E.sub, ?_, ?_⟩
    · show upd Γ.G p o q.1 = none
      rw [upd_ne hne]
      exact g2
    · rw [hF, upd_ne hne] at g3
      exact g3
/-- a tuple that stands there is known to the heap's unchanging part -/
theorem Rs.know {b : Addr} {xs : List V} (R : Rs K Γ S H) (hb : H b = some (.tup xs)) : ∃ G', Ext Γ ⟨Γ.A, G', Γ.F, Γ.T⟩ ∧ Rs K ⟨Γ.A, G', Γ.F, Γ.T⟩ S H ∧ G' b = some (.tup xs) := by
  cases e : Γ.G b with
  | some o =>
    have h := R.sub b o e
    rw [hb] at h
    cases h
    exact ⟨Γ.G, ⟨⟨[], by simp⟩, fun _ _ q => q, rfl, rfl⟩, R, e⟩
  | none =>
    have E : Ext Γ ⟨Γ.A, upd Γ.G b (.tup xs), Γ.F, Γ.T⟩ := Ext.laid e
    have nb : ∀ {a : Addr} {u : HO}, H a = some u → (∀ ys, u ≠ .tup ys) → a ≠ b := fun {a u} ha hu z => by
      subst z
      rw [hb] at ha
      cases ha
      exact hu _ rfl
    refine ⟨upd Γ.G b (.tup xs), E, ⟨fun a u q => ?_, R.len, fun i u q => ?_, R.fsub, fun a u q => ?_, R.fapt, R.inj, fun q hq => ?_, R.fnt⟩, upd_same⟩
    · have q' : upd Γ.G b (.tup xs) a = some u := q
      by_cases h : a = b
      · subst h
        rw [upd_same] at q'
        rw [hb]
        exact q'
      · rw [upd_ne h] at q'
        exact R.sub a u q'
    · obtain ⟨a, h1, h2, h3⟩ := R.obj i u q
      have hne : a ≠ b := fun z => by
        rw [z, hb] at h3
        cases u with
        | lst ds =>
          obtain ⟨vs, g, _⟩ := h3
          cases g
        | ins C fs =>
          obtain ⟨dx, gs, g, _⟩ := h3
          cases g
        | dct kvs =>
          obtain ⟨gs, g, _⟩ := h3
          cases g
        | pp ks =>
          obtain ⟨_, _, g, _⟩ := h3
          cases g
      refine ⟨a, h1, ?_, h3.mono E⟩
      show upd Γ.G b (.tup xs) a = none
      rw [upd_ne hne]
      exact h2
    · have hne : a ≠ b := nb (R.fsub a u q) (R.fnt a u q)
      show upd Γ.G b (.tup xs) a = none
      rw [upd_ne hne]
      exact R.fdis a u q
    · obtain ⟨g1, g2, g3⟩ := R.tab q hq
      obtain ⟨ps, t1, _⟩ := id g1
      have hne : q.1 ≠ b := nb t1 fun ys z => by cases z
      refine ⟨g1.sub E.sub, ?_, g3⟩
      show upd Γ.G b (.tup xs) q.1 = none
      rw [upd_ne hne]
      exact g2
theorem Rs.givePush {F0 : Hp} (R : Rs K Γ S H) {o : HO} (hF : Γ.F = upd F0 p o) (h0 : F0 p = none) {d : DO} (ho : RO K Γ d (some o)) : Rs K ⟨Γ.A ++ [p], Γ.G, F0, Γ.T⟩ (S ++ [some d]) H := by
  have hp : Γ.F p = some o := by rw [hF]; exact upd_same
  have E : Ext Γ ⟨Γ.A ++ [p], Γ.G, Γ.F, Γ.T⟩ := Ext.push p
  have key : ∀ {k : Nat} {x : DO} {a : Addr}, (S ++ [some d])[k]? = some (some x) → (Γ.A ++ [p])[k]? = some a → (k < S.length ∧ S[k]? = some (some x) ∧ Γ.A[k]? = some a ∧ a ≠ p) ∨ (k = S.length ∧ a = p) := by
    intro k x a ek hk
    by_cases hl : k < S.length
    · rw [List.getElem?_append_left hl] at ek
      rw [List.getElem?_append_left (by rw [R.len]; exact hl)] at hk
      exact .inl ⟨hl, ek, hk, fun q => by
        subst q
        rw [R.fapt k a x ek hk] at hp
        cases hp⟩
    · have h2 := (List.getElem?_eq_some_iff.mp ek).1
      rw [List.length_append] at h2
      have h3 : k = S.length := by simp at h2; omega
      rw [List.getElem?_append_right (by rw [R.len]; omega), R.len, h3] at hk
      refine .inr ⟨h3, ?_⟩
      have hk2 : some p = some a := by simpa using hk
      exact (Option.some.inj hk2).symm
  have nF : ∀ {a : Addr}, a ≠ p → F0 a = Γ.F a := fun {a} hne => by rw [hF, upd_ne hne]
  refine ⟨R.sub, ?_, fun i u e => ?_, fun a u e => ?_, fun a u e => ?_, fun i a u e ha => ?_, fun i j a u w ei ej hi hj => ?_, fun q hq => ?_, fun a u e => by
    have e' : F0 a = some u := e
    have hne : a ≠ p := fun q => by
      subst q
      rw [h0] at e'
      cases e'
    exact R.fnt a u (by rw [hF, upd_ne hne]; exact e')⟩
  · show (Γ.A ++ [p]).length = (S ++ [some d]).length
    rw [List.length_append, List.length_append, R.len]
    rfl
  · by_cases hl : i < S.length
    · rw [List.getElem?_append_left hl] at e
      obtain ⟨a, h1, h2, h3⟩ := R.obj i u e
      exact ⟨a, E.at h1, h2, h3.mono E⟩
    · have h2 := (List.getElem?_eq_some_iff.mp e).1
      rw [List.length_append] at h2
      have h3 : i = S.length := by simp at h2; omega
      subst h3
      have e2 : d = u := by simpa using e
      subst e2
      refine ⟨p, ?_, R.fdis p o hp, ?_⟩
      · show (Γ.A ++ [p])[S.length]? = some p
        rw [List.getElem?_append_right (by rw [R.len]; omega), R.len]
        simp
      · rw [R.fsub p o hp]
        exact ho.mono E
  · have e' : F0 a = some u := e
    have hne : a ≠ p := fun q => by
      subst q
      rw [h0] at e'
      cases e'
    exact R.fsub a u (by rw [← nF hne]; exact e')
  · have e' : F0 a = some u := e
    have hne : a ≠ p := fun q => by
      subst q
      rw [h0] at e'
      cases e'
    exact R.fdis a u (by rw [← nF hne]; exact e')
  · show F0 a = none
    rcases key e ha with ⟨h1, h2, h3, h4⟩ | ⟨h1, h2⟩
    · rw [nF h4]
      exact R.fapt i a u h2 h3
    · rw [h2]
      exact h0
  · rcases key ei hi with ⟨h1, h2, h3, h4⟩ | ⟨h1, h2⟩
    · rcases key ej hj with ⟨g1, g2, g3, g4⟩ | ⟨g1, g2⟩
      · exact R.inj i j a u w h2 g2 h3 g3
      · exact absurd g2 h4
    · rcases key ej hj with ⟨g1, g2, g3, g4⟩ | ⟨g1, g2⟩
      · exact absurd h2 g4
      · rw [h1, g1]
  · obtain ⟨g1, g2, g3⟩ := R.tab q hq
    have hne : q.1 ≠ p := fun z => by
      rw [z, hp] at g3
      cases g3
    refine ⟨g1, g2, ?_⟩
    rw [hF, upd_ne hne] at g3
    exact g3
theorem Cf.mk' (R : Rs K Γ' S' H') (c : Cf K Γ S H δ σ) (e : Ext Γ Γ') : Cf K Γ' S' H' δ σ :=
  ⟨R, c.len, fun i d h => by
    obtain ⟨v, h1, h2⟩ := c.ls i d h
    exact ⟨v, h1, RV.mono e d v h2⟩⟩
theorem Cf.set (c : Cf K Γ S H δ σ) {i : Nat} {d : DV} {v : V} (r : RV K Γ d v) : Cf K Γ S H (δ.set i (some d)) (σ.set i (some v)) :=
  ⟨c.rs, by rw [List.length_set, List.length_set]; exact c.len, fun j x h => by
    by_cases hj : j = i
    · subst hj
      have hl : j < δ.length := by
        have := (List.getElem?_eq_some_iff.mp h).1
        rw [List.length_set] at this
        exact this
      rw [List.getElem?_set_self hl] at h
      cases h
      exact ⟨v, by rw [List.getElem?_set_self (by rw [← c.len]; exact hl)], r⟩
    · rw [List.getElem?_set_ne (Ne.symm hj)] at h
      obtain ⟨u, h1, h2⟩ := c.ls j x h
      exact ⟨u, by rw [List.getElem?_set_ne (Ne.symm hj)]; exact h1, h2⟩⟩
end

/-! ### what is wanted behind -/
abbrev MK (α : Type) := (α → Store → Prop)
abbrev MX := Exn → Store → Prop
abbrev ME := DEnv → Store → MK DV → MX → Prop
abbrev MT := DEnv → Store → MK Bool → MX → Prop
abbrev MA := DEnv → Store → MK (List DV) → MX → Prop
structure EndsD where
  nx : DEnv → Store → Prop
  rt : DV → Store → Prop
  bk : DEnv → Store → Prop
  ct : DEnv → Store → Prop
  ex : Exn → DEnv → Store → Prop
abbrev MS := EndsD → DEnv → Store → Prop
/-- behind a value of some kind -/
def KQ {α β : Type} (rel : AG → α → β → Prop) (K : PySem.W.Frag) (Γ : AG) (Qd : MK α) (Q : β → Hp → Prop) : Prop :=
  ∀ Γ' S' H' d v, Ext Γ Γ' → Rs K Γ' S' H' → rel Γ' d v → Qd d S' → Q v H'
def KE (K : PySem.W.Frag) (W : WX) (Γ : AG) (σ : L2.St) (Ed : MX) : Prop :=
  ∀ Γ' S' H' x c dd, Ext Γ Γ' → Rs K Γ' S' H' → RX K Γ' x c dd → Ed x S' → W c dd σ H'
/-- the reading that belongs to what is told over data -/
def tG {α β : Type} (rel : AG → α → β → Prop) (K : PySem.W.Frag) (W : WX) (m : DEnv → Store → MK α → MX → Prop) : L2.St → Hp → (β → Hp → Prop) → Prop := fun σ H Q =>
  ∃ Γ S δ Qd Ed, Cf K Γ S H δ σ ∧ m δ S Qd Ed ∧ KQ rel K Γ Qd Q ∧ KE K W Γ σ Ed
abbrev relB : AG → Bool → Bool → Prop := fun _ a b => a = b
structure ER (K : PySem.W.Frag) (W : WX) (Γ : AG) (Dd : EndsD) (D : Ends) : Prop where
  nx : ∀ Γ' S' H' δ' σ', Ext Γ Γ' → Cf K Γ' S' H' δ' σ' → Dd.nx δ' S' → D.nx σ' H'
  rt : ∀ Γ' S' H' d v, Ext Γ Γ' → Rs K Γ' S' H' → RV K Γ' d v → Dd.rt d S' → D.rt v H'
  bk : ∀ Γ' S' H' δ' σ', Ext Γ Γ' → Cf K Γ' S' H' δ' σ' → Dd.bk δ' S' → D.bk σ' H'
  ct : ∀ Γ' S' H' δ' σ', Ext Γ Γ' → Cf K Γ' S' H' δ' σ' → Dd.ct δ' S' → D.ct σ' H'
  ex : ∀ Γ' S' H' δ' σ' x c dd, Ext Γ Γ' → Cf K Γ' S' H' δ' σ' → RX K Γ' x c dd → Dd.ex x δ' S' → W c dd σ' H'
def tSD (K : PySem.W.Frag) (W : WX) (m : MS) : TS := fun D σ H => ∃ Γ S δ Dd, Cf K Γ S H δ σ ∧ m Dd δ S ∧ ER K W Γ Dd D

def DE (X : Cx) (W : WX) (e : Expr) (m : ME) : Prop := PE X e (tG (RV X.K) X.K W m)
def DT (X : Cx) (W : WX) (e : Expr) (m : MT) : Prop := PT X e (tG relB X.K W m)
def DW (X : Cx) (W : WX) (e : Expr) (m : MT) : Prop := PW X e (tG relB X.K W m)
def DA (X : Cx) (W : WX) (es : List Expr) (m : MA) : Prop := PA X es (tG (RVs X.K) X.K W m)
def DS (X : Cx) (W : WX) (st : Stmt) (m : MS) : Prop := PS X st (tSD X.K W m)
def DB (X : Cx) (W : WX) (sts : List Stmt) (m : MS) : Prop := PSs X sts (tSD X.K W m)

theorem KQ.mono {α β : Type} {rel : AG → α → β → Prop} {K : PySem.W.Frag} {Γ Γ' : AG} {Qd : MK α} {Q : β → Hp → Prop} (h : KQ rel K Γ Qd Q) (e : Ext Γ Γ') : KQ rel K Γ' Qd Q :=
  fun Γ2 S' H' d v e2 => h Γ2 S' H' d v (e.trans e2)
theorem KE.mono {K : PySem.W.Frag} {W : WX} {Γ Γ' : AG} {σ : L2.St} {Ed : MX} (h : KE K W Γ σ Ed) (e : Ext Γ Γ') : KE K W Γ' σ Ed :=
  fun Γ2 S' H' x c dd e2 => h Γ2 S' H' x c dd (e.trans e2)
theorem ER.mono {K : PySem.W.Frag} {W : WX} {Γ Γ' : AG} {Dd : EndsD} {D : Ends} (h : ER K W Γ Dd D) (e : Ext Γ Γ') : ER K W Γ' Dd D :=
  ⟨fun Γ2 S' H' δ' σ' e2 => h.nx Γ2 S' H' δ' σ' (e.trans e2), fun Γ2 S' H' d v e2 => h.rt Γ2 S' H' d v (e.trans e2), fun Γ2 S' H' δ' σ' e2 => h.bk Γ2 S' H' δ' σ' (e.trans e2),
    fun Γ2 S' H' δ' σ' e2 => h.ct Γ2 S' H' δ' σ' (e.trans e2), fun Γ2 S' H' δ' σ' x c dd e2 => h.ex Γ2 S' H' δ' σ' x c dd (e.trans e2)⟩
/-- the exceptions of a statement's expression -/
theorem ER.ke {K : PySem.W.Frag} {W : WX} {Γ : AG} {Dd : EndsD} {D : Ends} {S : Store} {H : Hp} {δ : DEnv} {σ : L2.St} (h : ER K W Γ Dd D) (c : Cf K Γ S H δ σ) : KE K W Γ σ (fun x S' => Dd.ex x δ S') :=
  fun Γ2 S' H' x cl dd e2 R rx q => h.ex Γ2 S' H' δ σ x cl dd e2 (c.mk' R e2) rx q
theorem PE.imp {X : Cx} {e : Expr} {t t' : TE} (h : PE X e t) (i : ∀ σ H Q, t' σ H Q → t σ H Q) : PE X e t' := ⟨fun pins s σ H Q I q => h.run pins s σ H Q I (i σ H Q q)⟩
theorem PT.imp {X : Cx} {e : Expr} {t t' : TT} (h : PT X e t) (i : ∀ σ H Q, t' σ H Q → t σ H Q) : PT X e t' := ⟨fun pins s σ H Q I q => h.run pins s σ H Q I (i σ H Q q)⟩
theorem PW.imp {X : Cx} {e : Expr} {t t' : TT} (h : PW X e t) (i : ∀ σ H Q, t' σ H Q → t σ H Q) : PW X e t' := ⟨fun wh pins s σ H Q I q => h.run wh pins s σ H Q I (i σ H Q q)⟩
theorem PA.imp {X : Cx} {es : List Expr} {t t' : TA} (h : PA X es t) (i : ∀ σ H Q, t' σ H Q → t σ H Q) : PA X es t' := ⟨fun pos pins s σ H Q I q => h.run pos pins s σ H Q I (i σ H Q q)⟩
theorem PS.imp {X : Cx} {st : Stmt} {t t' : TS} (h : PS X st t) (i : ∀ D σ H, t' D σ H → t D σ H) : PS X st t' := ⟨fun pins s σ H D I q => h.run pins s σ H D I (i D σ H q)⟩
theorem PSs.imp {X : Cx} {st : List Stmt} {t t' : TS} (h : PSs X st t) (i : ∀ D σ H, t' D σ H → t D σ H) : PSs X st t' := ⟨fun pins s σ H D I q => h.run pins s σ H D I (i D σ H q)⟩
end DL
/-! D layer, part 2: expressions and statements over data. -/
namespace DL
open PySem PySem.Spec PyProof.Rows L2

def slot : DEnv → Nat → Option DV
  | [], _ => none
  | x :: _, 0 => x
  | _ :: r, n + 1 => slot r n
theorem slot_get : ∀ {δ : DEnv} {i : Nat} {d : DV}, slot δ i = some d → δ[i]? = some (some d)
  | [], _, _, h => by cases h
  | x :: _, 0, d, h => by
    have e : x = some d := h
    rw [e]
    rfl
  | _ :: r, n + 1, d, h => by
    have := slot_get (δ := r) (i := n) (d := d) h
    simpa using this
/-! ### the combinators -/
abbrev G1 := DV → Store → MK DV → Prop
abbrev G2 := DV → DV → Store → MK DV → Prop
abbrev GN := List DV → Store → MK DV → Prop
def mVar (i : Nat) : ME := fun δ S Q _ => match slot δ i with
  | some d => Q d S
  | none => False
def mC (d : DV) : ME := fun _ S Q _ => Q d S
def mOp (g : G2) (a b : ME) : ME := fun δ S Q E => a δ S (fun x S1 => b δ S1 (fun y S2 => g x y S2 Q) E) E
def mUn (g : G1) (a : ME) : ME := fun δ S Q E => a δ S (fun x S1 => g x S1 Q) E
def mChain (g g' : G2) (a b c : ME) : ME := fun δ S Q E => a δ S (fun x S1 => b δ S1 (fun y S2 => g x y S2 (fun z S3 => match z with
  | .bl true => c δ S3 (fun w S4 => g' y w S4 Q) E
  | .bl false => Q (.bl false) S3
  | _ => False)) E) E
def mT (a : ME) : MT := fun δ S Q E => a δ S (fun x S1 => match x with
  | .bl b => Q b S1
  | _ => False) E
def mAnd (a b : MT) : MT := fun δ S Q E => a δ S (fun c S1 => match c with
  | true => b δ S1 Q E
  | false => Q false S1) E
def mOr (a b : MT) : MT := fun δ S Q E => a δ S (fun c S1 => match c with
  | true => Q true S1
  | false => b δ S1 Q E) E
def mNot (a : MT) : MT := fun δ S Q E => a δ S (fun c S1 => Q (!c) S1) E
def mAndV (a b : ME) : ME := fun δ S Q E => a δ S (fun x S1 => match x with
  | .bl true => b δ S1 Q E
  | .bl false => Q (.bl false) S1
  | _ => False) E
def mOrV (a b : ME) : ME := fun δ S Q E => a δ S (fun x S1 => match x with
  | .bl true => Q (.bl true) S1
  | .bl false => b δ S1 Q E
  | _ => False) E
def mNotV (a : ME) : ME := fun δ S Q E => a δ S (fun x S1 => match x with
  | .bl c => Q (.bl (!c)) S1
  | _ => False) E
def mIf (t : MT) (a b : ME) : ME := fun δ S Q E => t δ S (fun c S1 => match c with
  | true => a δ S1 Q E
  | false => b δ S1 Q E) E
def mNil : MA := fun _ S Q _ => Q [] S
def mCons (a : ME) (r : MA) : MA := fun δ S Q E => a δ S (fun x S1 => r δ S1 (fun xs S2 => Q (x :: xs) S2) E) E
def mTup (as : MA) : ME := fun δ S Q E => as δ S (fun ds S1 => ds.length ≤ 16777216 ∧ Q (.tup ds) S1) E
/-- a list that is never changed -/
def mLst (as : MA) : ME := fun δ S Q E => as δ S (fun ds S1 => ds.length ≤ 16777216 ∧ Q (.lst ds) S1) E
/-- a list that may be changed -/
def mLstO (as : MA) : ME := fun δ S Q E => as δ S (fun ds S1 => ds.length ≤ 16777216 ∧ Q (.ref S1.length) (S1 ++ [some (.lst ds)])) E
/-- {} that is never changed -/
def mDct : ME := fun _ S Q _ => Q .dct S
def mCall (g : GN) (as : MA) : ME := fun δ S Q E => as δ S (fun ds S1 => g ds S1 Q) E

/-! ### by values: what a rule over data is -/
def tO2 (K : PySem.W.Frag) (g : G2) : R2 := fun x y H Q => ∃ Γ S dx dy Qd, Rs K Γ S H ∧ RV K Γ dx x ∧ RV K Γ dy y ∧ g dx dy S Qd ∧ KQ (RV K) K Γ Qd Q
def tO1 (K : PySem.W.Frag) (g : G1) : V → Hp → VK → Prop := fun x H Q => ∃ Γ S dx Qd, Rs K Γ S H ∧ RV K Γ dx x ∧ g dx S Qd ∧ KQ (RV K) K Γ Qd Q
def tON (K : PySem.W.Frag) (g : GN) : List V → Hp → VK → Prop := fun xs H Q => ∃ Γ S ds Qd, Rs K Γ S H ∧ RVs K Γ ds xs ∧ g ds S Qd ∧ KQ (RV K) K Γ Qd Q
def OpD (X : Cx) (f : Value → Value → Sem Value) (g : G2) : Prop := OpR X f (tO2 X.K g)
def UnD (X : Cx) (f : Value → Sem Value) (g : G1) : Prop := UnR X f (tO1 X.K g)
def CallD (X : Cx) (f : Value) (g : GN) : Prop := CallR X f (tON X.K g)
section
variable {K : PySem.W.Frag} {Γ : AG} {S : Store} {H : Hp} {Qd : MK DV} {Q : VK}
/-- back with a value that names no new object -/
theorem KQ.here (kq : KQ (RV K) K Γ Qd Q) (R : Rs K Γ S H) {d : DV} {v : V} (r : RV K Γ d v) (q : Qd d S) : Q v H := kq Γ S H d v (Ext.refl Γ) R r q
/-- back with a new object that never changes -/
theorem KQ.new (kq : KQ (RV K) K Γ Qd Q) (R : Rs K Γ S H) {p : Addr} (hp : H p = none) {o : HO} {d : DV} (r : RV K ⟨Γ.A, upd Γ.G p o, Γ.F, Γ.T⟩ d (.ref p)) (q : Qd d S) : Q (.ref p) (upd H p o) :=
  kq _ S _ d _ (R.ext hp o) (R.laid hp o) r q
theorem KQ.newT (kq : KQ (RV K) K Γ Qd Q) (R : Rs K Γ S H) {p : Addr} (hp : H p = none) {ds : List DV} {vs : List V} (r : RVs K Γ ds vs) (q : Qd (.tup ds) S) : Q (.ref p) (upd H p (.tup vs)) :=
  kq.new (d := .tup ds) R hp ⟨p, vs, rfl, upd_same, RVs.mono (R.ext hp _) _ _ r⟩ q
theorem KQ.newL (kq : KQ (RV K) K Γ Qd Q) (R : Rs K Γ S H) {p : Addr} (hp : H p = none) {ds : List DV} {vs : List V} (r : RVs K Γ ds vs) (q : Qd (.lst ds) S) : Q (.ref p) (upd H p (.lst vs)) :=
  kq.new (d := .lst ds) R hp ⟨p, vs, rfl, upd_same, RVs.mono (R.ext hp _) _ _ r⟩ q
/-- back with a new mutable object -/
theorem KQ.push (kq : KQ (RV K) K Γ Qd Q) (R : Rs K Γ S H) {p : Addr} (hp : H p = none) {o : HO} {d : DO} (ho : RO K Γ d (some o)) (q : Qd (.ref S.length) (S ++ [some d])) : Q (.ref p) (upd H p o) := by
  refine kq _ _ _ (.ref S.length) _ (Ext.push p) (R.push hp ho) ⟨p, ?_, rfl⟩ q
  show (Γ.A ++ [p])[S.length]? = some p
  rw [← R.len]
  simp
theorem Rs.tup (R : Rs K Γ S H) {ds : List DV} {v : V} (r : RV K Γ (.tup ds) v) : ∃ p vs, v = .ref p ∧ SqT K H p vs ∧ RVs K Γ ds vs := by
  obtain ⟨p, vs, h1, h2, h3⟩ := r
  exact ⟨p, vs, h1, .of (R.sub _ _ h2), h3⟩
theorem Rs.lst (R : Rs K Γ S H) {ds : List DV} {v : V} (r : RV K Γ (.lst ds) v) : ∃ p vs, v = .ref p ∧ H p = some (.lst vs) ∧ RVs K Γ ds vs := by
  obtain ⟨p, vs, h1, h2, h3⟩ := r
  exact ⟨p, vs, h1, R.sub _ _ h2, h3⟩
theorem Rs.frz (R : Rs K Γ S H) {ds : List DV} {v : V} (r : RV K Γ (.frz ds) v) : ∃ p vs, v = .ref p ∧ SqL K H p vs ∧ RVs K Γ ds vs := by
  obtain ⟨p, vs, h1, h2, h3⟩ := r
  exact ⟨p, vs, h1, sqL_sub R.sub h2, h3⟩
theorem Rs.ref (R : Rs K Γ S H) {i : Nat} {v : V} {d : DO} (r : RV K Γ (.ref i) v) (e : S[i]? = some (some d)) : ∃ a, v = .ref a ∧ Γ.A[i]? = some a ∧ RO K Γ d (H a) := by
  obtain ⟨a, h1, h2⟩ := r
  obtain ⟨b, g1, g2, g3⟩ := R.obj i d e
  rw [h1] at g1
  cases g1
  exact ⟨a, h2, h1, g3⟩
end

section
variable {X : Cx} {W : WX} {a b c e : Expr} {es : List Expr} {ma mb mc : ME} {mt mu : MT} {mas : MA} {pos : Pos}
/-! ### names, constants -/
theorem d_var {i : Nat} {x : Str} {pos : Pos} (hN : X.N[i]? = some x := by rfl) (hv : Vis X.env.scope x := by first | exact Or.inl rfl | exact Or.inr (Or.inl rfl) | exact Or.inr (Or.inr rfl)) (hd : (x == ("__debug__" : Str)) = false := by decide)
    (hcd : (x == ("__classdict__" : Str)) = false := by decide) : DE X W (.Name x pos) (mVar i) :=
  PE.imp (pe_var hN hv hd hcd) fun σ H Q ⟨Γ, S, δ, Qd, Ed, c, m, kq, ke⟩ => by
    have m' : (match slot δ i with
      | some d => Qd d S
      | none => False) := m
    cases hs : slot δ i with
    | none =>
      rw [hs] at m'
      exact m'.elim
    | some d =>
      rw [hs] at m'
      obtain ⟨v, h1, h2⟩ := c.ls i d (slot_get hs)
      exact ⟨v, h1, kq.here c.rs h2 m'⟩
theorem d_const {d : DV} {v : V} (h : PE X e (tC v)) (r : ∀ Γ, RV X.K Γ d v) : DE X W e (mC d) :=
  PE.imp h fun σ H Q ⟨Γ, S, δ, Qd, Ed, c, m, kq, ke⟩ => kq.here c.rs (r Γ) m
theorem d_int {i : Int} {j} {pos : Pos} : DE X W (.Constant (.int i) j pos) (mC (.int i)) := d_const pe_int fun _ => rfl
theorem d_bl {i : Bool} {j} {pos : Pos} : DE X W (.Constant (.bool i) j pos) (mC (.bl i)) := d_const pe_bl fun _ => rfl
theorem d_non {j} {pos : Pos} : DE X W (.Constant .none j pos) (mC .non) := d_const pe_non fun _ => rfl
/-! ### operations -/
theorem d_op {op : Operator} {g : G2} (ho : OpD X (binaryOp op) g) (ha : DE X W a ma) (hb : DE X W b mb) : DE X W (.BinOp a op b pos) (mOp g ma mb) :=
  PE.imp (pe_op ho ha hb) fun σ H Q ⟨Γ, S, δ, Qd, Ed, c, m, kq, ke⟩ =>
    ⟨Γ, S, δ, _, Ed, c, m, fun Γ1 S1 H1 d1 v1 e1 R1 r1 q1 => ⟨Γ1, S1, δ, _, Ed, c.mk' R1 e1, q1, fun Γ2 S2 H2 d2 v2 e2 R2 r2 q2 =>
      ⟨Γ2, S2, d1, d2, Qd, R2, RV.mono e2 _ _ r1, r2, q2, kq.mono (e1.trans e2)⟩, ke.mono e1⟩, ke⟩
theorem d_cmp {op : CmpOp} {g : G2} (ho : OpD X (compareOp op) g) (ha : DE X W a ma) (hb : DE X W b mb) (hm : behindInMarks op b = false) : DE X W (.Compare a [op] [b] pos) (mOp g ma mb) :=
  PE.imp (pe_cmpR ho ha hb hm) fun σ H Q ⟨Γ, S, δ, Qd, Ed, c, m, kq, ke⟩ =>
    ⟨Γ, S, δ, _, Ed, c, m, fun Γ1 S1 H1 d1 v1 e1 R1 r1 q1 => ⟨Γ1, S1, δ, _, Ed, c.mk' R1 e1, q1, fun Γ2 S2 H2 d2 v2 e2 R2 r2 q2 =>
      ⟨Γ2, S2, d1, d2, Qd, R2, RV.mono e2 _ _ r1, r2, q2, kq.mono (e1.trans e2)⟩, ke.mono e1⟩, ke⟩
theorem d_un {op : UnaryOp} {g : G1} (ho : UnD X (unaryOp op) g) (ha : DE X W a ma) : DE X W (.UnaryOp op a pos) (mUn g ma) :=
  PE.imp (pe_un ho ha) fun σ H Q ⟨Γ, S, δ, Qd, Ed, c, m, kq, ke⟩ =>
    ⟨Γ, S, δ, _, Ed, c, m, fun Γ1 S1 H1 d1 v1 e1 R1 r1 q1 => ⟨Γ1, S1, d1, Qd, R1, r1, q1, kq.mono e1⟩, ke⟩
/-! ### tests -/
theorem d_test (ha : DE X W a ma) (he : ∀ whole, isTrue a X.env whole = (do let v ← whole; standAt a.pos; holding [v] (truthy v)) := by intro _; rfl) : DT X W a (mT ma) :=
  PT.imp (pt_val ha he) fun σ H Q ⟨Γ, S, δ, Qd, Ed, c, m, kq, ke⟩ => ⟨Γ, S, δ, _, Ed, c, m, fun Γ1 S1 H1 d1 v1 e1 R1 r1 q1 => by
    cases d1 with
    | bl k =>
      cases (show v1 = .bl k from r1)
      exact ⟨k, rfl, kq Γ1 S1 H1 k k e1 R1 rfl q1⟩
    | _ => exact False.elim q1, ke⟩
theorem d_testC {op : CmpOp} {g : G2} (ho : OpD X (compareOp op) g) (ha : DE X W a ma) (hb : DE X W b mb) (hm : behindInMarks op b = false) : DT X W (.Compare a [op] [b] pos) (mT (mOp g ma mb)) :=
  PT.imp (pt_cmpR ho ha hb hm) fun σ H Q ⟨Γ, S, δ, Qd, Ed, c, m, kq, ke⟩ =>
    ⟨Γ, S, δ, _, Ed, c, m, fun Γ1 S1 H1 d1 v1 e1 R1 r1 q1 => ⟨Γ1, S1, δ, _, Ed, c.mk' R1 e1, q1, fun Γ2 S2 H2 d2 v2 e2 R2 r2 q2 =>
      ⟨Γ2, S2, d1, d2, _, R2, RV.mono e2 _ _ r1, r2, q2, fun Γ3 S3 H3 d3 v3 e3 R3 r3 q3 => by
        cases d3 with
        | bl k =>
          cases (show v3 = .bl k from r3)
          exact ⟨k, rfl, kq Γ3 S3 H3 k k ((e1.trans e2).trans e3) R3 rfl q3⟩
        | _ => exact False.elim q3⟩, ke.mono e1⟩, ke⟩
theorem d_pt (h : DW X W a mt) : DT X W a mt := PW.pt h
theorem d_and1 (ha : DT X W a mt) : DW X W (.BoolOp .And [a] pos) mt := pw_and1 ha
theorem d_or1 (ha : DT X W a mt) : DW X W (.BoolOp .Or [a] pos) mt := pw_or1 ha
theorem d_and (ha : DT X W a mt) (hb : DW X W (.BoolOp .And (b :: es) pos) mu) : DW X W (.BoolOp .And (a :: b :: es) pos) (mAnd mt mu) :=
  PW.imp (pw_and ha hb) fun σ H Q ⟨Γ, S, δ, Qd, Ed, c, m, kq, ke⟩ => ⟨Γ, S, δ, _, Ed, c, m, fun Γ1 S1 H1 d1 v1 e1 R1 r1 q1 => by
    cases (show d1 = v1 from r1)
    cases d1 with
    | true =>
      rw [if_pos rfl]
      exact ⟨Γ1, S1, δ, Qd, Ed, c.mk' R1 e1, q1, kq.mono e1, ke.mono e1⟩
    | false =>
      rw [if_neg Bool.false_ne_true]
      exact kq Γ1 S1 H1 false false e1 R1 rfl q1, ke⟩
theorem d_or (ha : DT X W a mt) (hb : DW X W (.BoolOp .Or (b :: es) pos) mu) : DW X W (.BoolOp .Or (a :: b :: es) pos) (mOr mt mu) :=
  PW.imp (pw_or ha hb) fun σ H Q ⟨Γ, S, δ, Qd, Ed, c, m, kq, ke⟩ => ⟨Γ, S, δ, _, Ed, c, m, fun Γ1 S1 H1 d1 v1 e1 R1 r1 q1 => by
    cases (show d1 = v1 from r1)
    cases d1 with
    | true =>
      rw [if_pos rfl]
      exact kq Γ1 S1 H1 true true e1 R1 rfl q1
    | false =>
      rw [if_neg Bool.false_ne_true]
      exact ⟨Γ1, S1, δ, Qd, Ed, c.mk' R1 e1, q1, kq.mono e1, ke.mono e1⟩, ke⟩
theorem d_not (ha : DT X W a mt) : DT X W (.UnaryOp .Not a pos) (mNot mt) :=
  PT.imp (pt_not ha) fun σ H Q ⟨Γ, S, δ, Qd, Ed, c, m, kq, ke⟩ => ⟨Γ, S, δ, _, Ed, c, m, fun Γ1 S1 H1 d1 v1 e1 R1 r1 q1 => by
    cases (show d1 = v1 from r1)
    exact kq Γ1 S1 H1 (!d1) (!d1) e1 R1 rfl q1, ke⟩
theorem d_ifExp (hc : DT X W c mt) (ha : DE X W a ma) (hb : DE X W b mb) : DE X W (.IfExp c a b pos) (mIf mt ma mb) :=
  PE.imp (pe_ifExp hc ha hb) fun σ H Q ⟨Γ, S, δ, Qd, Ed, c, m, kq, ke⟩ => ⟨Γ, S, δ, _, Ed, c, m, fun Γ1 S1 H1 d1 v1 e1 R1 r1 q1 => by
    cases (show d1 = v1 from r1)
    cases d1 with
    | true =>
      rw [if_pos rfl]
      exact ⟨Γ1, S1, δ, Qd, Ed, c.mk' R1 e1, q1, kq.mono e1, ke.mono e1⟩
    | false =>
      rw [if_neg Bool.false_ne_true]
      exact ⟨Γ1, S1, δ, Qd, Ed, c.mk' R1 e1, q1, kq.mono e1, ke.mono e1⟩, ke⟩
/-! ### arguments, displays -/
theorem d_nil : DA X W [] mNil := PA.imp pa_nil fun σ H Q ⟨Γ, S, δ, Qd, Ed, c, m, kq, ke⟩ => kq Γ S H [] [] (Ext.refl Γ) c.rs rfl m
theorem d_cons (ha : DE X W e ma) (hr : DA X W es mas) (hs : starEach (e :: es) X.env = (false, eval e X.env) :: starEach es X.env := by rfl) : DA X W (e :: es) (mCons ma mas) :=
  PA.imp (pa_cons ha hr hs) fun σ H Q ⟨Γ, S, δ, Qd, Ed, c, m, kq, ke⟩ =>
    ⟨Γ, S, δ, _, Ed, c, m, fun Γ1 S1 H1 d1 v1 e1 R1 r1 q1 => ⟨Γ1, S1, δ, _, Ed, c.mk' R1 e1, q1, fun Γ2 S2 H2 ds vs e2 R2 r2 q2 =>
      kq Γ2 S2 H2 (d1 :: ds) (v1 :: vs) (e1.trans e2) R2 ⟨v1, vs, rfl, RV.mono e2 _ _ r1, r2⟩ q2, ke.mono e1⟩, ke⟩
theorem line_le {n : Nat} (h : n ≤ 16777216) : n ≤ sizeLine := by
  rw [sizeLine_eq]
  exact h
theorem d_tup {x1} (h : DA X W es mas) : DE X W (.Tuple es x1 pos) (mTup mas) :=
  PE.imp (pe_tup h) fun σ H Q ⟨Γ, S, δ, Qd, Ed, c, m, kq, ke⟩ => ⟨Γ, S, δ, _, Ed, c, m, fun Γ1 S1 H1 ds vs e1 R1 r1 q1 =>
    ⟨by rw [← r1.length]; exact line_le q1.1, fun p hp => (kq.mono e1).newT R1 hp r1 q1.2⟩, ke⟩
theorem d_lst (h : DA X W es mas) : DE X W (.List es pos) (mLst mas) :=
  PE.imp (pe_lst h) fun σ H Q ⟨Γ, S, δ, Qd, Ed, c, m, kq, ke⟩ => ⟨Γ, S, δ, _, Ed, c, m, fun Γ1 S1 H1 ds vs e1 R1 r1 q1 =>
    ⟨by rw [← r1.length]; exact line_le q1.1, fun p hp => (kq.mono e1).newL R1 hp r1 q1.2⟩, ke⟩
theorem d_lstO (h : DA X W es mas) : DE X W (.List es pos) (mLstO mas) :=
  PE.imp (pe_lst h) fun σ H Q ⟨Γ, S, δ, Qd, Ed, c, m, kq, ke⟩ => ⟨Γ, S, δ, _, Ed, c, m, fun Γ1 S1 H1 ds vs e1 R1 r1 q1 =>
    ⟨by rw [← r1.length]; exact line_le q1.1, fun p hp => (kq.mono e1).push (d := .lst ds) R1 hp ⟨vs, rfl, r1⟩ q1.2⟩, ke⟩
/-! ### calls of what is built in -/
variable {x : Str} {p : Pos} {id T : String} {g : GN}
theorem d_callB (hc : CallD X (.builtin id) g) (hg : Gl X x) (hm : X.mg x = none) (hv : bootBuiltins x = some (.builtin id)) (ha : DA X W (e :: es) mas) (hn : x ≠ "__name__" := by decide) (hdb : (x == ("__debug__" : Str)) = false := by decide)
    (he : starEach (e :: es) X.env = (false, eval e X.env) :: starEach es X.env := by rfl) (hpl : (backTo pos (starEach es X.env)).any (·.1) = false := by rfl) : DE X W (.Call (.Name x p) (e :: es) [] pos) (mCall g mas) :=
  PE.imp (pe_callB hc hg hm hv ha hn hdb he hpl) fun σ H Q ⟨Γ, S, δ, Qd, Ed, c, m, kq, ke⟩ => ⟨Γ, S, δ, _, Ed, c, m, fun Γ1 S1 H1 ds vs e1 R1 r1 q1 => ⟨Γ1, S1, ds, Qd, R1, r1, q1, kq.mono e1⟩, ke⟩
theorem d_callT (hc : CallD X (.type T) g) (hg : Gl X x) (hm : X.mg x = none) (hv : bootBuiltins x = some (.type T)) (ha : DA X W (e :: es) mas) (hn : x ≠ "__name__" := by decide) (hdb : (x == ("__debug__" : Str)) = false := by decide)
    (he : starEach (e :: es) X.env = (false, eval e X.env) :: starEach es X.env := by rfl) (hpl : (backTo pos (starEach es X.env)).any (·.1) = false := by rfl) : DE X W (.Call (.Name x p) (e :: es) [] pos) (mCall g mas) :=
  PE.imp (pe_callTy hc hg hm hv ha hn hdb he hpl) fun σ H Q ⟨Γ, S, δ, Qd, Ed, c, m, kq, ke⟩ => ⟨Γ, S, δ, _, Ed, c, m, fun Γ1 S1 H1 ds vs e1 R1 r1 q1 => ⟨Γ1, S1, ds, Qd, R1, r1, q1, kq.mono e1⟩, ke⟩
end
end DL
/-! D layer, part 3: operators, built-in functions, subscripts and slices over data. -/
namespace DL
open PySem PySem.Spec PyProof.Rows L2

/-! ### plain data -/
mutual
def toP : DV → Option PyData
  | .non => some .none
  | .bl b => some (.bool b)
  | .int i => some (.int i)
  | .str x => some (.str x)
  | .tup ds => match toPs ds with
    | some ps => some (.tuple ps)
    | none => none
  | .lst ds => match toPs ds with
    | some ps => some (.list ps)
    | none => none
  | .frz ds => match toPs ds with
    | some ps => some (.list ps)
    | none => none
  | .ty _ => none
  | .adr _ => none
  | .cls _ => none
  | .ref _ => none
  | .dct => none
  | .dcx => none
  | .act _ _ _ _ _ => none
  | .exc _ => none
  | .clo _ _ => none
  | .ins _ _ _ => none
def toPs : List DV → Option (List PyData)
  | [] => some []
  | d :: ds => match toP d, toPs ds with
    | some p, some ps => some (p :: ps)
    | _, _ => none
end
section
variable {X : Cx} {pins : List (Addr × Obj)} {σ : L2.St} {H : Hp} {s : Shared} {Γ : AG} {S : Store}
mutual
theorem reads_of (I : Inv X pins σ H s) (R : Rs X.K Γ S H) : ∀ (d : DV) (p : PyData) (v : V) (u : Value), RV X.K Γ d v → toP d = some p → RelV v u → ∃ as, Reads s.heap u p as
  | .non, p, v, u, r, e, q => by
    cases (show v = .non from r)
    cases e
    cases q
    exact ⟨_, Reads.none⟩
  | .bl b, p, v, u, r, e, q => by
    cases (show v = .bl b from r)
    cases e
    cases q
    exact ⟨_, Reads.bool b⟩
  | .int i, p, v, u, r, e, q => by
    cases (show v = .int i from r)
    cases e
    obtain ⟨t, rfl⟩ := q
    exact ⟨_, Reads.int i t⟩
  | .str x, p, v, u, r, e, q => by
    cases (show v = .str x from r)
    cases e
    obtain ⟨t, rfl⟩ := q
    exact ⟨_, Reads.str x t⟩
  | .tup ds, p, v, u, r, e, q => by
    obtain ⟨a, vs, rfl, h2, h3⟩ := R.tup r
    cases q
    have e' : (match toPs ds with
      | some ps => some (PyData.tuple ps)
      | none => none) = some p := by simpa only [toP] using e
    cases hd : toPs ds with
    | none =>
      rw [hd] at e'
      cases e'
    | some ps =>
      rw [hd] at e'
      cases e'
      obtain ⟨its, rv, ⟨o, ho, hc, n, hdt⟩, _⟩ := I.tuple h2
      obtain ⟨as, hr⟩ := readsAll_of I R ds ps vs its h3 hd rv
      exact ⟨_, Reads.tuple ho hc hdt hr⟩
  | .lst ds, p, v, u, r, e, q => by
    obtain ⟨a, vs, rfl, h2, h3⟩ := R.lst r
    cases q
    have e' : (match toPs ds with
      | some ps => some (PyData.list ps)
      | none => none) = some p := by simpa only [toP] using e
    cases hd : toPs ds with
    | none =>
      rw [hd] at e'
      cases e'
    | some ps =>
      rw [hd] at e'
      cases e'
      obtain ⟨its, rv, ⟨o, n, ho, hc, _, hdt⟩, _⟩ := I.list (.inl (.inl h2))
      obtain ⟨as, hr⟩ := readsAll_of I R ds ps vs its h3 hd rv
      exact ⟨_, Reads.list ho hc hdt hr⟩
  | .frz ds, p, v, u, r, e, q => by
    obtain ⟨a, vs, rfl, h2, h3⟩ := R.frz r
    cases q
    have e' : (match toPs ds with
      | some ps => some (PyData.list ps)
      | none => none) = some p := by simpa only [toP] using e
    cases hd : toPs ds with
    | none =>
      rw [hd] at e'
      cases e'
    | some ps =>
      rw [hd] at e'
      cases e'
      obtain ⟨its, rv, ⟨o, n, ho, hc, _, hdt⟩, _⟩ := I.list h2
      obtain ⟨as, hr⟩ := readsAll_of I R ds ps vs its h3 hd rv
      exact ⟨_, Reads.list ho hc hdt hr⟩
  | .ty _, p, v, u, r, e, q => by cases e
  | .adr _, p, v, u, r, e, q => by cases e
  | .cls _, p, v, u, r, e, q => by cases e
  | .ref _, p, v, u, r, e, q => by cases e
  | .dct, p, v, u, r, e, q => by cases e
  | .dcx, p, v, u, r, e, q => by cases e
  | .act _ _ _ _ _, p, v, u, r, e, q => by cases e
  | .exc _, p, v, u, r, e, q => by cases e
  | .clo _ _, p, v, u, r, e, q => by cases e
  | .ins _ _ _, p, v, u, r, e, q => by cases e
theorem readsAll_of (I : Inv X pins σ H s) (R : Rs X.K Γ S H) : ∀ (ds : List DV) (ps : List PyData) (vs : List V) (us : List Value), RVs X.K Γ ds vs → toPs ds = some ps → Vals vs us → ∃ as, ReadsAll s.heap us ps as
  | [], ps, vs, us, r, e, q => by
    cases (show vs = [] from r)
    cases e
    cases q
    exact ⟨_, ReadsAll.nil⟩
  | d :: ds, ps, vs, us, r, e, q => by
    obtain ⟨v, ws, rfl, h2, h3⟩ := r
    have e' : (match toP d, toPs ds with
      | some p, some ps => some (p :: ps)
      | _, _ => none) = some ps := by simpa only [toPs] using e
    cases h4 : toP d with
    | none =>
      rw [h4] at e'
      cases e'
    | some p =>
      cases h5 : toPs ds with
      | none =>
        rw [h4, h5] at e'
        cases e'
      | some qs =>
        rw [h4, h5] at e'
        cases e'
        cases q with
        | cons q1 q2 =>
          obtain ⟨as, g1⟩ := reads_of I R d p v _ h2 h4 q1
          obtain ⟨bs, g2⟩ := readsAll_of I R ds qs ws _ h3 h5 q2
          exact ⟨_, ReadsAll.cons g1 g2⟩
end
end

/-! ### operators -/
def fAdd : G2
  | .int i, .int j, S, Q => Q (.int (i + j)) S
  | .tup xs, .tup ys, S, Q => xs.length + ys.length ≤ 16777216 ∧ Q (.tup (xs ++ ys)) S
  | .lst xs, .lst ys, S, Q => xs.length + ys.length ≤ 16777216 ∧ Q (.lst (xs ++ ys)) S
  | .str x, .str y, S, Q => x.length + y.length ≤ 16777216 ∧ Q (.str (x ++ y)) S
  | _, _, _, _ => False
def fSub : G2
  | .int i, .int j, S, Q => Q (.int (i - j)) S
  | _, _, _, _ => False
def mulOk (i j : Int) : Prop := (-(2 ^ 64) < i ∧ i < 2 ^ 64) ∨ (-(2 ^ 64) < j ∧ j < 2 ^ 64) ∨ i.natAbs.log2 + j.natAbs.log2 < 1000000
def fMul : G2
  | .int i, .int j, S, Q => mulOk i j ∧ Q (.int (i * j)) S
  | .lst xs, .int k, S, Q => -(2 ^ 63) ≤ k ∧ k < 2 ^ 63 ∧ xs.length * k.toNat ≤ 16777216 ∧ Q (.lst (List.replicate k.toNat xs).flatten) S
  | _, _, _, _ => False
def fDiv : G2
  | .int i, .int j, S, Q => 0 < j ∧ j.natAbs.log2 < 9000 ∧ Q (.int (i / j)) S
  | _, _, _, _ => False
def fMod : G2
  | .int i, .int j, S, Q => 0 < j ∧ Q (.int (i % j)) S
  | _, _, _, _ => False
def fPow : G2
  | .int i, .int j, S, Q => 0 ≤ j ∧ j ≤ 1000000 ∧ i.natAbs < 2 ^ 64 ∧ Q (.int (i ^ j.toNat)) S
  | _, _, _, _ => False
def fNeg : G1
  | .int i, S, Q => Q (.int (-i)) S
  | _, _, _ => False
/-- == of data; q: == or != -/
def fEqD (q : Bool → Bool) : G2 := fun x y S Q => match toP x, toP y with
  | some p, some r => SeqAt.shaped p = true ∧ SeqAt.shaped r = true ∧ Q (.bl (q (PyData.eqv p r))) S
  | _, _ => False
def fEq (q : Bool → Bool) : G2
  | .int i, .int j, S, Q => Q (.bl (q (decide (i = j)))) S
  | .str x, .str y, S, Q => Q (.bl (q (decide (x = y)))) S
  | .bl x, .bl y, S, Q => Q (.bl (q (decide (x = y)))) S
  | x, y, S, Q => fEqD q x y S Q
def fLt : G2
  | .int i, .int j, S, Q => Q (.bl (decide (i < j))) S
  | .tup x, .tup y, S, Q => ∃ p r, toP (.tup x) = some p ∧ toP (.tup y) = some r ∧ PySem.W.alike p r = true ∧ p.depth ≤ 60 ∧ Q (.bl (PySem.W.dataLt p r)) S
  | _, _, _, _ => False
def fLe : G2
  | .int i, .int j, S, Q => Q (.bl (decide (i ≤ j))) S
  | _, _, _, _ => False
def fGt : G2
  | .int i, .int j, S, Q => Q (.bl (decide (j < i))) S
  | _, _, _, _ => False
def fGe : G2
  | .int i, .int j, S, Q => Q (.bl (decide (j ≤ i))) S
  | _, _, _, _ => False
/-- is None, is not None -/
def fIs (q : Bool → Bool) : G2 := fun x y S Q => y = .non ∧ (match x with
  | .non => Q (.bl (q true)) S
  | _ => Q (.bl (q false)) S)
section
variable {X : Cx} {K : PySem.W.Frag} {Γ : AG} {v : V}
theorem RV.int {i : Int} (r : RV K Γ (.int i) v) : v = .int i := r
theorem opd_add : OpD X (binaryOp .Add) fAdd := by
  intro pins s σ H x y v u Q I rx ry h
  obtain ⟨Γ, S, dx, dy, Qd, R, r1, r2, hg, kq⟩ := h
  cases dx with
  | int i =>
    cases dy with
    | int j =>
      cases r1.int
      cases r2.int
      exact op_add pins s σ H _ _ v u Q I rx ry ⟨i, j, rfl, rfl, kq.here (d := .int (i + j)) R rfl hg⟩
    | _ => exact False.elim hg
  | tup xs =>
    cases dy with
    | tup ys =>
      obtain ⟨a, vs, rfl, h1, h2⟩ := R.tup r1
      obtain ⟨b, ws, rfl, g1, g2⟩ := R.tup r2
      obtain ⟨hz, hg⟩ := hg
      refine op_catA pins s σ H _ _ v u Q I rx ry ⟨a, b, vs, ws, rfl, rfl, h1, g1, by rw [← h2.length, ← g2.length]; exact line_le hz, fun e => ?_, fun _ e => ?_, fun _ _ p hp => ?_⟩
      · have e2 : xs = [] := by
          rw [e] at h2
          exact List.eq_nil_of_length_eq_zero h2.length
        subst e2
        exact kq.here (d := .tup ys) R r2 hg
      · have e2 : ys = [] := by
          rw [e] at g2
          exact List.eq_nil_of_length_eq_zero g2.length
        subst e2
        rw [List.append_nil] at hg
        exact kq.here (d := .tup xs) R r1 hg
      · exact kq.newT R hp (h2.append g2) hg
    | _ => exact False.elim hg
  | lst xs =>
    cases dy with
    | lst ys =>
      obtain ⟨a, vs, rfl, h1, h2⟩ := R.lst r1
      obtain ⟨b, ws, rfl, g1, g2⟩ := R.lst r2
      obtain ⟨hz, hg⟩ := hg
      exact op_cat pins s σ H _ _ v u Q I rx ry ⟨a, b, vs, ws, rfl, rfl, h1, g1, by rw [← h2.length, ← g2.length]; exact line_le hz, fun p hp => kq.newL R hp (h2.append g2) hg⟩
    | _ => exact False.elim hg
  | str x =>
    cases dy with
    | str y =>
      obtain ⟨hz, hg⟩ := hg
      cases (show _ = V.str x from r1)
      cases (show _ = V.str y from r2)
      exact op_add_str pins s σ H _ _ v u Q I rx ry ⟨x, y, rfl, rfl, line_le hz, kq.here (d := .str (x ++ y)) R rfl hg⟩
    | _ => exact False.elim hg
  | _ => cases dy <;> exact False.elim hg
/-- an operation on ints alone: C what is asked, h what it makes -/
theorem opd_ints {f : Value → Value → Sem Value} {g : G2} {C : Int → Int → Prop} {h : Int → Int → DV} {hv : Int → Int → V} (hh : ∀ K Γ i j, RV K Γ (h i j) (hv i j)) (ho : OpR X f (rI C hv))
    (hg : ∀ dx dy S Q, g dx dy S Q → ∃ i j, dx = .int i ∧ dy = .int j ∧ C i j ∧ Q (h i j) S) : OpD X f g := by
  intro pins s σ H x y v u Q I rx ry q
  obtain ⟨Γ, S, dx, dy, Qd, R, r1, r2, q, kq⟩ := q
  obtain ⟨i, j, rfl, rfl, c, q2⟩ := hg _ _ _ _ q
  cases r1.int
  cases r2.int
  exact ho pins s σ H _ _ v u Q I rx ry ⟨i, j, rfl, rfl, c, kq.here R (hh _ _ i j) q2⟩
theorem opd_ints0 {f : Value → Value → Sem Value} {g : G2} {h : Int → Int → DV} {hv : Int → Int → V} (hh : ∀ K Γ i j, RV K Γ (h i j) (hv i j)) (ho : OpR X f (rI0 hv))
    (hg : ∀ dx dy S Q, g dx dy S Q → ∃ i j, dx = .int i ∧ dy = .int j ∧ Q (h i j) S) : OpD X f g := by
  intro pins s σ H x y v u Q I rx ry q
  obtain ⟨Γ, S, dx, dy, Qd, R, r1, r2, q, kq⟩ := q
  obtain ⟨i, j, rfl, rfl, q2⟩ := hg _ _ _ _ q
  cases r1.int
  cases r2.int
  exact ho pins s σ H _ _ v u Q I rx ry ⟨i, j, rfl, rfl, kq.here R (hh _ _ i j) q2⟩
theorem opd_sub : OpD X (binaryOp .Sub) fSub := opd_ints0 (h := fun i j => .int (i - j)) (fun _ _ _ _ => rfl) op_sub fun dx dy S Q q => by
  cases dx <;> cases dy <;> first | exact ⟨_, _, rfl, rfl, q⟩ | exact False.elim q
theorem mulOk.ok {i j : Int} (h : mulOk i j) : IntMulOk i j := by
  rcases h with h | h | h
  · exact CMul.ok (.inl h)
  · exact CMul.ok (.inr h)
  · exact CMulW.ok h
theorem opd_mul : OpD X (binaryOp .Mult) fMul := by
  intro pins s σ H x y v u Q I rx ry h
  obtain ⟨Γ, S, dx, dy, Qd, R, r1, r2, hg, kq⟩ := h
  cases dx with
  | int i =>
    cases dy with
    | int j =>
      cases r1.int
      cases r2.int
      obtain ⟨t, rfl⟩ := rx
      obtain ⟨t', rfl⟩ := ry
      exact mul_int ⟨.int _, H, I.tok _, ⟨_, rfl⟩, kq.here (d := .int (i * j)) R rfl hg.2⟩ hg.1.ok
    | _ => exact False.elim hg
  | lst xs =>
    cases dy with
    | int k =>
      obtain ⟨a, vs, rfl, h1, h2⟩ := R.lst r1
      cases r2.int
      obtain ⟨c1, c2, c3, hg⟩ := hg
      refine op_rep pins s σ H _ _ v u Q I rx ry ⟨a, k, vs, rfl, rfl, h1, c1, c2, by rw [← h2.length]; exact line_le c3, fun p hp => kq.newL R hp ?_ hg⟩
      have key : ∀ n : Nat, RVs X.K Γ (List.replicate n xs).flatten (List.replicate n vs).flatten := by
        intro n
        induction n with
        | zero => exact rfl
        | succ n ih =>
          rw [List.replicate_succ, List.replicate_succ, List.flatten_cons, List.flatten_cons]
          exact h2.append ih
      exact key _
    | _ => exact False.elim hg
  | _ => cases dy <;> exact False.elim hg
theorem opd_div : OpD X (binaryOp .FloorDiv) fDiv := opd_ints (C := CDivW) (h := fun i j => .int (i / j)) (fun _ _ _ _ => rfl) op_fdivW fun dx dy S Q q => by
  cases dx <;> cases dy <;> first | exact ⟨_, _, rfl, rfl, ⟨q.1, q.2.1⟩, q.2.2⟩ | exact False.elim q
theorem opd_mod : OpD X (binaryOp .Mod) fMod := opd_ints (C := fun _ j => 0 < j) (h := fun i j => .int (i % j)) (fun _ _ _ _ => rfl) op_mod fun dx dy S Q q => by
  cases dx <;> cases dy <;> first | exact ⟨_, _, rfl, rfl, q.1, q.2⟩ | exact False.elim q
theorem opd_pow : OpD X (binaryOp .Pow) fPow := opd_ints (C := CPow) (h := fun i j => .int (i ^ j.toNat)) (fun _ _ _ _ => rfl) op_pow fun dx dy S Q q => by
  cases dx <;> cases dy <;> first | exact ⟨_, _, rfl, rfl, ⟨q.1, q.2.1, q.2.2.1⟩, q.2.2.2⟩ | exact False.elim q
theorem opd_gt : OpD X (compareOp .Gt) fGt := opd_ints0 (h := fun i j => .bl (decide (j < i))) (fun _ _ _ _ => rfl) op_gt fun dx dy S Q q => by
  cases dx <;> cases dy <;> first | exact ⟨_, _, rfl, rfl, q⟩ | exact False.elim q
theorem opd_ge : OpD X (compareOp .GtE) fGe := opd_ints0 (h := fun i j => .bl (decide (j ≤ i))) (fun _ _ _ _ => rfl) op_ge fun dx dy S Q q => by
  cases dx <;> cases dy <;> first | exact ⟨_, _, rfl, rfl, q⟩ | exact False.elim q
theorem und_neg : UnD X (unaryOp .USub) fNeg := by
  intro pins s σ H x v Q I rx h
  obtain ⟨Γ, S, dx, Qd, R, r1, hg, kq⟩ := h
  cases dx with
  | int i =>
    cases r1.int
    exact un_neg pins s σ H _ v Q I rx ⟨i, rfl, kq.here (d := .int (-i)) R rfl hg⟩
  | _ => exact False.elim hg
/-! ### comparisons of data -/
theorem eqD_run {pins : List (Addr × Obj)} {s : Shared} {σ : L2.St} {H : Hp} {x y : V} {v u : Value} {Q : VK} (hu : X.A.units + 64 < cLine) (I : Inv X pins σ H s) (rx : RelV x v) (ry : RelV y u) {Γ : AG} {S : Store} {dx dy : DV} {Qd : MK DV} (R : Rs X.K Γ S H) (r1 : RV X.K Γ dx x) (r2 : RV X.K Γ dy y)
    (kq : KQ (RV X.K) X.K Γ Qd Q) : (fEqD (fun b => b) dx dy S Qd → wpAny (model X.prog X.w) X.A (compareOp .Eq v u) (EP X pins σ Q) X.xe s) ∧ (fEqD (fun b => !b) dx dy S Qd → wpAny (model X.prog X.w) X.A (compareOp .NotEq v u) (EP X pins σ Q) X.xe s) := by
  constructor
  · intro hg
    unfold fEqD at hg
    cases e1 : toP dx with
    | none =>
      rw [e1] at hg
      exact hg.elim
    | some p =>
      cases e2 : toP dy with
      | none =>
        rw [e1, e2] at hg
        exact hg.elim
      | some q =>
        rw [e1, e2] at hg
        obtain ⟨s1, s2, hg⟩ := hg
        obtain ⟨as, g1⟩ := reads_of I R dx p x v r1 e1 rx
        obtain ⟨bs, g2⟩ := reads_of I R dy q y u r2 e2 ry
        exact SeqAt.compareEq_shaped g1 g2 s1 s2 hu ⟨.bl _, H, I, rfl, kq.here (d := .bl (PyData.eqv p q)) R rfl hg⟩
  · intro hg
    unfold fEqD at hg
    cases e1 : toP dx with
    | none =>
      rw [e1] at hg
      exact hg.elim
    | some p =>
      cases e2 : toP dy with
      | none =>
        rw [e1, e2] at hg
        exact hg.elim
      | some q =>
        rw [e1, e2] at hg
        obtain ⟨s1, s2, hg⟩ := hg
        obtain ⟨as, g1⟩ := reads_of I R dx p x v r1 e1 rx
        obtain ⟨bs, g2⟩ := reads_of I R dy q y u r2 e2 ry
        exact SeqAt.compareNe_shaped g1 g2 s1 s2 hu ⟨.bl _, H, I, rfl, kq.here (d := .bl (!PyData.eqv p q)) R rfl hg⟩
theorem opd_eq (hu : X.A.units + 64 < cLine) : OpD X (compareOp .Eq) (fEq fun b => b) := by
  intro pins s σ H x y v u Q I rx ry h
  obtain ⟨Γ, S, dx, dy, Qd, R, r1, r2, hg, kq⟩ := h
  have gen : fEqD (fun b => b) dx dy S Qd → wpAny (model X.prog X.w) X.A (compareOp .Eq v u) (EP X pins σ Q) X.xe s := (eqD_run hu I rx ry R r1 r2 kq).1
  cases dx with
  | int i =>
    cases dy with
    | int j =>
      cases r1.int
      cases r2.int
      refine op_eq pins s σ H _ _ v u Q I rx ry ⟨rfl, kq.here (d := .bl (decide (i = j))) R ?_ hg⟩
      show V.bl (decide (V.int i = V.int j)) = V.bl (decide (i = j))
      congr 1
      simp
    | _ => exact gen hg
  | str a =>
    cases dy with
    | str b =>
      cases (show _ = V.str a from r1)
      cases (show _ = V.str b from r2)
      refine op_eq pins s σ H _ _ v u Q I rx ry ⟨rfl, kq.here (d := .bl (decide (a = b))) R ?_ hg⟩
      show V.bl (decide (V.str a = V.str b)) = V.bl (decide (a = b))
      congr 1
      simp
    | _ => exact gen hg
  | bl a =>
    cases dy with
    | bl b =>
      cases (show _ = V.bl a from r1)
      cases (show _ = V.bl b from r2)
      refine op_eq pins s σ H _ _ v u Q I rx ry ⟨rfl, kq.here (d := .bl (decide (a = b))) R ?_ hg⟩
      show V.bl (decide (V.bl a = V.bl b)) = V.bl (decide (a = b))
      congr 1
      simp
    | _ => exact gen hg
  | _ => cases dy <;> exact gen hg
theorem opd_ne (hu : X.A.units + 64 < cLine) : OpD X (compareOp .NotEq) (fEq fun b => !b) := by
  intro pins s σ H x y v u Q I rx ry h
  obtain ⟨Γ, S, dx, dy, Qd, R, r1, r2, hg, kq⟩ := h
  have gen : fEqD (fun b => !b) dx dy S Qd → wpAny (model X.prog X.w) X.A (compareOp .NotEq v u) (EP X pins σ Q) X.xe s := (eqD_run hu I rx ry R r1 r2 kq).2
  cases dx with
  | int i =>
    cases dy with
    | int j =>
      cases r1.int
      cases r2.int
      refine op_ne pins s σ H _ _ v u Q I rx ry ⟨rfl, kq.here (d := .bl (!decide (i = j))) R ?_ hg⟩
      show V.bl (!decide (V.int i = V.int j)) = V.bl (!decide (i = j))
      congr 2
      simp
    | _ => exact gen hg
  | str a =>
    cases dy with
    | str b =>
      cases (show _ = V.str a from r1)
      cases (show _ = V.str b from r2)
      refine op_ne pins s σ H _ _ v u Q I rx ry ⟨rfl, kq.here (d := .bl (!decide (a = b))) R ?_ hg⟩
      show V.bl (!decide (V.str a = V.str b)) = V.bl (!decide (a = b))
      congr 2
      simp
    | _ => exact gen hg
  | bl a =>
    cases dy with
    | bl b =>
      cases (show _ = V.bl a from r1)
      cases (show _ = V.bl b from r2)
      refine op_ne pins s σ H _ _ v u Q I rx ry ⟨rfl, kq.here (d := .bl (!decide (a = b))) R ?_ hg⟩
      show V.bl (!decide (V.bl a = V.bl b)) = V.bl (!decide (a = b))
      congr 2
      simp
    | _ => exact gen hg
  | _ => cases dy <;> exact gen hg
theorem opd_lt (hu : X.A.units + 64 < cLine) : OpD X (compareOp .Lt) fLt := by
  intro pins s σ H x y v u Q I rx ry h
  obtain ⟨Γ, S, dx, dy, Qd, R, r1, r2, hg, kq⟩ := h
  cases dx with
  | int i =>
    cases dy with
    | int j =>
      cases r1.int
      cases r2.int
      exact op_lt pins s σ H _ _ v u Q I rx ry ⟨i, j, rfl, rfl, kq.here (d := .bl (decide (i < j))) R rfl hg⟩
    | _ => exact False.elim hg
  | tup xs =>
    cases dy with
    | tup ys =>
      obtain ⟨p, q, e1, e2, ha, hd, hg⟩ := hg
      obtain ⟨as, g1⟩ := reads_of I R _ p x v r1 e1 rx
      obtain ⟨bs, g2⟩ := reads_of I R _ q y u r2 e2 ry
      have hp : p ≠ .none := fun e => by
        rw [e] at g1
        obtain ⟨a, vs, rfl, _, _⟩ := R.tup r1
        cases rx
        cases g1
      have hm : min p.depth q.depth ≤ p.depth := Nat.min_le_left _ _
      exact PySem.W.rcLt_alike p q X.A s v u as bs g1 g2 ha hp (by omega) X.prog X.w X.xe _ ⟨.bl _, H, I, rfl, kq.here (d := .bl (PySem.W.dataLt p q)) R rfl hg⟩
    | _ => exact False.elim hg
  | _ => cases dy <;> exact False.elim hg
theorem isN_of {d : DV} (r : RV K Γ d v) : decide (v = .non) = (match d with
    | .non => true
    | _ => false) := by
  cases d with
  | non => cases (show v = .non from r); rfl
  | bl b => cases (show v = .bl b from r); rfl
  | int i => cases (show v = .int i from r); rfl
  | str x => cases (show v = .str x from r); rfl
  | ty n => cases (show v = .ty n from r); rfl
  | adr q => cases (show v = .ref q from r); rfl
  | cls n => cases (show v = .ref (He.ga K n) from r); rfl
  | ref i => obtain ⟨_, _, rfl⟩ := r; rfl
  | dct => obtain ⟨_, rfl, _⟩ := r; rfl
  | dcx => obtain ⟨_, _, rfl, _⟩ := r; rfl
  | tup ds => obtain ⟨_, _, rfl, _⟩ := r; rfl
  | lst ds => obtain ⟨_, _, rfl, _⟩ := r; rfl
  | frz ds => obtain ⟨_, _, rfl, _⟩ := r; rfl
  | ins C f y => obtain ⟨_, _, _, rfl, _⟩ := r; rfl
  | act A0 G0 f c q => obtain ⟨rfl, _⟩ := r; rfl
  | exc C => obtain ⟨_, _, rfl, _⟩ := r; rfl
  | clo T ds => obtain ⟨_, _, _, _, rfl, _⟩ := r; rfl
theorem opd_isNot : OpD X (compareOp .IsNot) (fIs fun b => !b) := by
  intro pins s σ H x y v u Q I rx ry h
  obtain ⟨Γ, S, dx, dy, Qd, R, r1, r2, ⟨e, hg⟩, kq⟩ := h
  subst e
  cases (show y = .non from r2)
  refine op_notN pins s σ H _ _ v u Q I rx ry ⟨rfl, ?_⟩
  rw [isN_of r1]
  cases dx <;> exact kq.here (d := .bl _) R rfl hg
end
end DL
/-! D layer, part 4: built-in functions, subscripts and slices over data. -/
namespace DL
open PySem PySem.Spec PyProof.Rows L2

theorem vals_cons {a : V} {vs : List V} {us : List Value} (r : Vals (a :: vs) us) : ∃ u ws, us = u :: ws ∧ RelV a u ∧ Vals vs ws := by
  cases r with
  | cons p q => exact ⟨_, _, rfl, p, q⟩
theorem vals_nil {us : List Value} (r : Vals [] us) : us = [] := by
  cases r
  rfl
section
variable {K : PySem.W.Frag} {Γ : AG} {d e : DV} {ds : List DV} {vs : List V}
theorem RVs.one (r : RVs K Γ [d] vs) : ∃ v, vs = [v] ∧ RV K Γ d v := by
  obtain ⟨v, us, rfl, h1, h2⟩ := r
  cases (show us = [] from h2)
  exact ⟨v, rfl, h1⟩
theorem RVs.two (r : RVs K Γ [d, e] vs) : ∃ v w, vs = [v, w] ∧ RV K Γ d v ∧ RV K Γ e w := by
  obtain ⟨v, us, rfl, h1, h2⟩ := r
  obtain ⟨w, rfl, h3⟩ := RVs.one (Γ := Γ) h2
  exact ⟨v, w, rfl, h1, h3⟩
end
/-- the items of an unchanging list, of a tuple, of a list in the store -/
def seqD (S : Store) : DV → Option (List DV)
  | .tup ds => some ds
  | .lst ds => some ds
  | .frz ds => some ds
  | .ref i => match S[i]? with
    | some (some (.lst ds)) => some ds
    | _ => none
  | _ => none
def gLen : GN
  | [.str x], S, Q => x.length ≤ 16777216 ∧ Q (.int x.length) S
  | [d], S, Q => match seqD S d with
    | some ds => Q (.int ds.length) S
    | none => False
  | _, _, _ => False
def gInt : GN
  | [.int i], S, Q => Q (.int i) S
  | [.bl b], S, Q => Q (.int (if b then 1 else 0)) S
  | [.str x], S, Q => ∃ n, PySem.intText? x = some n ∧ x.length ≤ 640 ∧ Q (.int n) S
  | _, _, _ => False
def gBool : GN
  | [.int i], S, Q => Q (.bl (i != 0)) S
  | [.bl b], S, Q => Q (.bl b) S
  | _, _, _ => False
def gStr : GN
  | [.int i], S, Q => i.natAbs.log2 < 1920 ∧ Q (.str (toString i)) S
  | _, _, _ => False
/-- list(..): a list that never changes; one that may -/
def gList : GN
  | [d], S, Q => match seqD S d with
    | some ds => Q (.lst ds) S
    | none => False
  | _, _, _ => False
def gTuple : GN
  | [d], S, Q => match seqD S d with
    | some ds => Q (.tup ds) S
    | none => False
  | _, _, _ => False
/-- the ints of a row -/
def intsD : List DV → Option (List Int)
  | [] => some []
  | .int i :: r => match intsD r with
    | some is => some (i :: is)
    | none => none
  | _ => none
/-- sum of ints -/
def gSum : GN
  | [d], S, Q => match seqD S d with
    | some ds => (match intsD ds with
      | some is => Q (.int is.sum) S
      | none => False)
    | none => False
  | _, _, _ => False
def gRepr : GN
  | [d], S, Q => match toP d with
    | some p => p.showable = true ∧ p.hasDict = false ∧ p.depth ≤ 60 ∧ p.shown.length ≤ 16777216 ∧ Q (.str p.shown) S
    | none => False
  | _, _, _ => False
section
variable {X : Cx}
theorem seqD_of {K : PySem.W.Frag} {Γ : AG} {S : Store} {H : Hp} {d : DV} {v : V} {ds : List DV} (R : Rs K Γ S H) (r : RV K Γ d v) (e : seqD S d = some ds) : ∃ p vs, v = .ref p ∧ (SqL K H p vs ∨ SqT K H p vs) ∧ RVs K Γ ds vs ∧ ((∃ cs, d = .tup cs) → SqT K H p vs) ∧ ((¬ ∃ cs, d = .tup cs) → SqL K H p vs) := by
  cases d with
  | tup cs =>
    cases e
    obtain ⟨p, vs, h1, h2, h3⟩ := R.tup r
    exact ⟨p, vs, h1, .inr h2, h3, fun _ => h2, fun h => absurd ⟨_, rfl⟩ h⟩
  | lst cs =>
    cases e
    obtain ⟨p, vs, h1, h2, h3⟩ := R.lst r
    exact ⟨p, vs, h1, .inl (SqL.of h2), h3, fun ⟨_, h⟩ => (nomatch h), fun _ => SqL.of h2⟩
  | frz cs =>
    cases e
    obtain ⟨p, vs, h1, h2, h3⟩ := R.frz r
    exact ⟨p, vs, h1, .inl h2, h3, fun ⟨_, h⟩ => (nomatch h), fun _ => h2⟩
  | ref i =>
    have e' : (match S[i]? with
      | some (some (DO.lst ds)) => some ds
      | _ => none) = some ds := e
    cases h : S[i]? with
    | none =>
      rw [h] at e'
      cases e'
    | some o =>
      cases o with
      | none =>
        rw [h] at e'
        cases e'
      | some o =>
        cases o with
        | lst cs =>
          rw [h] at e'
          cases e'
          obtain ⟨a, h1, h2, vs, h3, h4⟩ := R.ref r h
          exact ⟨a, vs, h1, .inl (SqL.of h3), h4, fun ⟨_, h⟩ => (nomatch h), fun _ => SqL.of h3⟩
        | ins _ _ =>
          rw [h] at e'
          cases e'
        | dct _ =>
          rw [h] at e'
          cases e'
        | pp _ =>
          rw [h] at e'
          cases e'
  | _ => cases e
theorem cd_len : CallD X (.builtin "len") gLen := by
  intro pins s σ H xs us Q I rx h
  obtain ⟨Γ, S, ds, Qd, R, r1, hg, kq⟩ := h
  match ds, r1, hg with
  | [], _, hg => exact False.elim hg
  | [d], r1, hg =>
    obtain ⟨v, rfl, r⟩ := r1.one
    have gen : (match seqD S d with
      | some ds => Qd (.int ds.length) S
      | none => False) → wpAny (model X.prog X.w) X.A (call (.builtin "len") us) (EP X pins σ Q) X.xe s := by
      intro q
      cases e : seqD S d with
      | none =>
        rw [e] at q
        exact q.elim
      | some ds =>
        rw [e] at q
        obtain ⟨p, vs, rfl, h1, h2, _, _⟩ := seqD_of R r e
        refine call_len_seq pins s σ H _ us Q I rx ⟨p, vs, rfl, h1, ?_⟩
        rw [← h2.length]
        exact kq.here (d := .int _) R rfl q
    cases d with
    | str x =>
      cases (show v = .str x from r)
      exact call_len_str pins s σ H _ us Q I rx ⟨x, rfl, line_le hg.1, kq.here (d := .int _) R rfl hg.2⟩
    | _ => exact gen hg
  | d :: d2 :: r, _, hg => exact False.elim (by cases d <;> exact hg)
theorem cd_int : CallD X (.type "int") gInt := by
  intro pins s σ H xs us Q I rx h
  obtain ⟨Γ, S, ds, Qd, R, r1, hg, kq⟩ := h
  match ds, r1, hg with
  | [], _, hg => exact False.elim hg
  | [d], r1, hg =>
    obtain ⟨v, rfl, r⟩ := r1.one
    cases d with
    | int i =>
      cases r.int
      exact call_int1 pins s σ H _ us Q I rx (.inl ⟨i, rfl, kq.here (d := .int i) R rfl hg⟩)
    | bl b =>
      cases (show v = .bl b from r)
      exact call_int1 pins s σ H _ us Q I rx (.inr ⟨b, rfl, kq.here (d := .int _) R rfl hg⟩)
    | str x =>
      cases (show v = .str x from r)
      obtain ⟨n, h1, h2, hg⟩ := hg
      exact call_int_str pins s σ H _ us Q I rx ⟨x, n, rfl, h1, h2, kq.here (d := .int n) R rfl hg⟩
    | _ => exact False.elim hg
  | d :: d2 :: r, _, hg => exact False.elim (by cases d <;> exact hg)
theorem cd_list : CallD X (.type "list") gList := by
  intro pins s σ H xs us Q I rx h
  obtain ⟨Γ, S, ds, Qd, R, r1, hg, kq⟩ := h
  match ds, r1, hg with
  | [], _, hg => exact False.elim hg
  | [d], r1, hg =>
    obtain ⟨v, rfl, r⟩ := r1.one
    have q : (match seqD S d with
      | some ds => Qd (.lst ds) S
      | none => False) := hg
    cases e : seqD S d with
    | none =>
      rw [e] at q
      exact q.elim
    | some ds =>
      rw [e] at q
      obtain ⟨p, vs, rfl, h1, h2, _, _⟩ := seqD_of R r e
      exact call_list_of pins s σ H _ us Q I rx ⟨p, vs, rfl, h1, fun l hl => kq.newL R hl h2 q⟩
  | d :: d2 :: r, _, hg => exact False.elim hg
theorem cd_tuple : CallD X (.type "tuple") gTuple := by
  intro pins s σ H xs us Q I rx h
  obtain ⟨Γ, S, ds, Qd, R, r1, hg, kq⟩ := h
  match ds, r1, hg with
  | [], _, hg => exact False.elim hg
  | [d], r1, hg =>
    obtain ⟨v, rfl, r⟩ := r1.one
    have q : (match seqD S d with
      | some ds => Qd (.tup ds) S
      | none => False) := hg
    cases e : seqD S d with
    | none =>
      rw [e] at q
      exact q.elim
    | some ds =>
      rw [e] at q
      obtain ⟨p, vs, rfl, _, h2, h3, h4⟩ := seqD_of R r e
      by_cases ht : ∃ cs, d = .tup cs
      · obtain ⟨cs, rfl⟩ := ht
        cases e
        exact call_tuple_of pins s σ H _ us Q I rx ⟨p, vs, rfl, .inr ⟨h3 ⟨_, rfl⟩, kq.here (d := .tup ds) R r q⟩⟩
      · exact call_tuple_of pins s σ H _ us Q I rx ⟨p, vs, rfl, .inl ⟨h4 ht, fun l hl => kq.newT R hl h2 q⟩⟩
  | d :: d2 :: r, _, hg => exact False.elim hg
/-! ### sum -/
/-! ### repr -/
theorem cd_repr (hg0 : X.A.guards = some []) (hu : X.A.units + 64 < cLine) : CallD X (.builtin "repr") gRepr := by
  intro pins s σ H xs us Q I rx h
  obtain ⟨Γ, S, ds, Qd, R, r1, hg, kq⟩ := h
  match ds, r1, hg with
  | [], _, hg => exact False.elim hg
  | [d], r1, hg =>
    obtain ⟨v, rfl, r⟩ := r1.one
    have q : (match toP d with
      | some p => p.showable = true ∧ p.hasDict = false ∧ p.depth ≤ 60 ∧ p.shown.length ≤ 16777216 ∧ Qd (.str p.shown) S
      | none => False) := hg
    obtain ⟨u, ws, rfl, ru, rn⟩ := vals_cons rx
    cases vals_nil rn
    cases e : toP d with
    | none =>
      rw [e] at q
      exact q.elim
    | some p =>
      rw [e] at q
      obtain ⟨h1, h2, h3, h4, q⟩ := q
      obtain ⟨as, g⟩ := reads_of I R d p v u r e ru
      have hsm : p.hasDict = true → sysModules ∉ as := fun e => by
        rw [h2] at e
        cases e
      have hz := line_le h4
      have fin : ∀ h' t tk, (∀ b o, s.heap.get? b = some o → h'.get? b = some o) → EP X pins σ Q (.str p.shown t) { s with heap := h', toks := tk } := fun h' t tk hk =>
        ⟨.str p.shown, H, I.kept hk, ⟨_, rfl⟩, kq.here (d := .str _) R rfl q⟩
      cases g with
      | none => exact PySem.P.repr_of_none (fin s.heap _ _ fun _ _ e => e)
      | bool b => exact PySem.P.repr_of_bool (fin s.heap _ _ fun _ _ e => e)
      | int i t => exact PySem.P.repr_of_int (of_decide_eq_true h1) (fin s.heap _ _ fun _ _ e => e)
      | str x t => exact PySem.P.repr_of_str (fin s.heap _ _ fun _ _ e => e) hz
      | list a1 a2 a3 a4 => exact repr_of_reads' (Reads.list a1 a2 a3 a4) h1 hsm hg0 (by omega) (fun _ _ e => e) (fun h' t tk hk => fin h' t tk hk) hz
      | tuple a1 a2 a3 a4 => exact repr_of_reads' (Reads.tuple a1 a2 a3 a4) h1 hsm hg0 (by omega) (fun _ _ e => e) (fun h' t tk hk => fin h' t tk hk) hz
      | dict a1 a2 a3 a4 a5 => exact repr_of_reads' (Reads.dict a1 a2 a3 a4 a5) h1 hsm hg0 (by omega) (fun _ _ e => e) (fun h' t tk hk => fin h' t tk hk) hz
  | d :: d2 :: r, _, hg => exact False.elim hg
/-! ### max, min -/
end
end DL
/-! D layer, part 5: subscripts, slices, statements, targets, loops, comprehensions. -/
namespace DL
open PySem PySem.Spec PyProof.Rows L2

/-! ### subscripts -/
def fIx : G2
  | .str x, .int i, S, Q => x.length ≤ 16777216 ∧ (match atI x.cps.toList i with
    | some c => Q (.str ⟨#[c]⟩) S
    | none => False)
  | d, .int i, S, Q => (match seqD S d with
    | some ds => (match atI ds i with
      | some e => Q e S
      | none => False)
    | none => False)
  | _, _, _, _ => False
theorem RVs.atI {K : PySem.W.Frag} {Γ : AG} {ds : List DV} {vs : List V} {i : Int} {d : DV} (r : RVs K Γ ds vs) (e : L2.atI ds i = some d) : ∃ v, L2.atI vs i = some v ∧ RV K Γ d v := by
  unfold L2.atI at e ⊢
  rw [← r.length]
  cases h : ixN ds.length i with
  | none =>
    rw [h] at e
    cases e
  | some j =>
    rw [h] at e
    exact r.get e
abbrev MP := DEnv → Store → MK (Option Int) → MX → Prop
def DP (X : Cx) (W : WX) (o : Option Expr) (m : MP) : Prop := PO X o (tG (fun _ (a b : Option Int) => a = b) X.K W m)
def mPN : MP := fun _ S Q _ => Q none S
def mPS (a : ME) : MP := fun δ S Q E => a δ S (fun x S1 => match x with
  | .int i => Q (some i) S1
  | _ => False) E
/-- the items of a slice -/
def cutD (xs : List DV) (lo hi : Option Int) : List DV := (xs.drop (HT.sIx xs.length 0 lo)).take (HT.sIx xs.length xs.length hi - HT.sIx xs.length 0 lo)
abbrev GS := DV → Option Int → Option Int → Store → MK DV → Prop
def fSl : GS
  | .tup ds, lo, hi, S, Q => Q (.tup (cutD ds lo hi)) S
  | .lst ds, lo, hi, S, Q => Q (.lst (cutD ds lo hi)) S
  | .frz ds, lo, hi, S, Q => Q (.lst (cutD ds lo hi)) S
  | _, _, _, _, _ => False
def mSl (g : GS) (a : ME) (l h : MP) : ME := fun δ S Q E => a δ S (fun x S1 => l δ S1 (fun lo S2 => h δ S2 (fun hi S3 => g x lo hi S3 Q) E) E) E
def fRev : G1
  | .tup ds, S, Q => Q (.tup ds.reverse) S
  | .lst ds, S, Q => Q (.lst ds.reverse) S
  | _, _, _ => False
theorem RVs.cut {K : PySem.W.Frag} {Γ : AG} {ds : List DV} {vs : List V} (r : RVs K Γ ds vs) (lo hi : Option Int) : RVs K Γ (cutD ds lo hi) (cutV vs lo hi) := by
  unfold cutD cutV
  rw [← r.length]
  exact (r.drop _).take _
section
variable {X : Cx} {W : WX} {a b e : Expr} {ma mb : ME} {ml mh : MP} {lo hi : Option Expr} {pos p2 : Pos}
theorem ixd_seq : IxR X (tO2 X.K fIx) := by
  intro value slice pins s σ H x y v u Q I rx ry h hs
  obtain ⟨Γ, S, dx, dy, Qd, R, r1, r2, hg, kq⟩ := h
  have gen : ∀ i, dy = .int i → (match seqD S dx with
    | some ds => (match atI ds i with
      | some e => Qd e S
      | none => False)
    | none => False) → wpAny (model X.prog X.w) X.A (subscriptTail value slice v u) (EP X pins σ Q) X.xe s := by
    intro i ey q
    subst ey
    cases r2.int
    cases e : seqD S dx with
    | none =>
      rw [e] at q
      exact q.elim
    | some ds =>
      rw [e] at q
      have q1 : (match atI ds i with
        | some e => Qd e S
        | none => False) := q
      cases e2 : atI ds i with
      | none =>
        rw [e2] at q1
        exact q1.elim
      | some d =>
        rw [e2] at q1
        obtain ⟨p, vs, rfl, h1, h2, _, _⟩ := seqD_of R r1 e
        obtain ⟨w, g1, g2⟩ := h2.atI e2
        rcases h1 with h1 | h1
        · exact ix_list value slice pins s σ H _ _ v u Q I rx ry ⟨p, vs, i, w, rfl, rfl, h1, g1, kq.here R g2 q1⟩ hs
        · exact ix_tup value slice pins s σ H _ _ v u Q I rx ry ⟨p, vs, i, w, rfl, rfl, h1, g1, kq.here R g2 q1⟩ hs
  cases dy with
  | int i =>
    cases dx with
    | str z =>
      obtain ⟨hz, q⟩ := hg
      cases (show x = .str z from r1)
      cases r2.int
      have q1 : (match atI z.cps.toList i with
        | some c => Qd (.str ⟨#[c]⟩) S
        | none => False) := q
      cases e2 : atI z.cps.toList i with
      | none =>
        rw [e2] at q1
        exact q1.elim
      | some c =>
        rw [e2] at q1
        exact ix_str value slice pins s σ H _ _ v u Q I rx ry ⟨z, i, c, rfl, rfl, line_le hz, e2, kq.here (d := .str ⟨#[c]⟩) R rfl q1⟩ hs
    | _ => exact gen i rfl hg
  | _ => cases dx <;> exact False.elim hg
theorem d_ix (ha : DE X W a ma) (hb : DE X W b mb) (hs : PlainIx b := by exact fun _ _ => rfl) : DE X W (.Subscript a b pos) (mOp fIx ma mb) :=
  PE.imp (pe_ix ixd_seq ha hb hs) fun σ H Q ⟨Γ, S, δ, Qd, Ed, c, m, kq, ke⟩ =>
    ⟨Γ, S, δ, _, Ed, c, m, fun Γ1 S1 H1 d1 v1 e1 R1 r1 q1 => ⟨Γ1, S1, δ, _, Ed, c.mk' R1 e1, q1, fun Γ2 S2 H2 d2 v2 e2 R2 r2 q2 =>
      ⟨Γ2, S2, d1, d2, Qd, R2, RV.mono e2 _ _ r1, r2, q2, kq.mono (e1.trans e2)⟩, ke.mono e1⟩, ke⟩
theorem PO.imp {o : Option Expr} {t t' : TO} (h : PO X o t) (i : ∀ σ H Q, t' σ H Q → t σ H Q) : PO X o t' := ⟨fun pins s σ H Q I q => h.run pins s σ H Q I (i σ H Q q)⟩
theorem d_pn : DP X W none mPN := PO.imp po_none fun σ H Q ⟨Γ, S, δ, Qd, Ed, c, m, kq, ke⟩ => kq Γ S H none none (Ext.refl Γ) c.rs rfl m
theorem d_ps (ha : DE X W a ma) : DP X W (some a) (mPS ma) := PO.imp (po_some ha) fun σ H Q ⟨Γ, S, δ, Qd, Ed, c, m, kq, ke⟩ =>
  ⟨Γ, S, δ, _, Ed, c, m, fun Γ1 S1 H1 d1 v1 e1 R1 r1 q1 => by
    cases d1 with
    | int i => exact ⟨i, r1, kq Γ1 S1 H1 (some i) (some i) e1 R1 rfl q1⟩
    | _ => exact False.elim q1, ke⟩
def tSlD (K : PySem.W.Frag) (g : GS) : V → Option Int → Option Int → Hp → VK → Prop := fun x lo hi H Q => ∃ Γ S dx Qd, Rs K Γ S H ∧ RV K Γ dx x ∧ g dx lo hi S Qd ∧ KQ (RV K) K Γ Qd Q
theorem sld_seq : L2.SlR X (tSlD X.K fSl) := by
  intro pins s σ H x v vl vu lo hi sl Q I rx hs pl pu h
  obtain ⟨Γ, S, dx, Qd, R, r1, hg, kq⟩ := h
  cases dx with
  | tup ds =>
    obtain ⟨p, vs, rfl, h2, h3⟩ := R.tup r1
    refine sl_tupA pins s σ H _ v vl vu lo hi sl Q I rx hs pl pu ⟨p, vs, rfl, h2, fun hw => ?_, fun _ q hq => kq.newT R hq (h3.cut lo hi) hg⟩
    have e : cutD ds lo hi = ds := by
      unfold cutD
      rw [h3.length, hw.1, hw.2, List.drop_zero, Nat.sub_zero, ← h3.length, List.take_length]
    have hg' : Qd (.tup (cutD ds lo hi)) S := hg
    rw [e] at hg'
    exact kq.here (d := .tup ds) R r1 hg'
  | lst ds =>
    obtain ⟨p, vs, rfl, h2, h3⟩ := R.lst r1
    exact sl_list pins s σ H _ v vl vu lo hi sl Q I rx hs pl pu ⟨p, vs, rfl, SqL.of h2, fun q hq => kq.newL R hq (h3.cut lo hi) hg⟩
  | frz ds =>
    obtain ⟨p, vs, rfl, h2, h3⟩ := R.frz r1
    exact sl_list pins s σ H _ v vl vu lo hi sl Q I rx hs pl pu ⟨p, vs, rfl, h2, fun q hq => kq.newL R hq (h3.cut lo hi) hg⟩
  | _ => exact False.elim hg
theorem d_sl (ha : DE X W a ma) (hl : DP X W lo ml) (hh : DP X W hi mh) : DE X W (.Subscript a (.Slice lo hi none p2) pos) (mSl fSl ma ml mh) :=
  PE.imp (pe_slice sld_seq ha hl hh) fun σ H Q ⟨Γ, S, δ, Qd, Ed, c, m, kq, ke⟩ =>
    ⟨Γ, S, δ, _, Ed, c, m, fun Γ1 S1 H1 d1 v1 e1 R1 r1 q1 => ⟨Γ1, S1, δ, _, Ed, c.mk' R1 e1, q1, fun Γ2 S2 H2 d2 v2 e2 R2 r2 q2 =>
      ⟨Γ2, S2, δ, _, Ed, c.mk' R2 (e1.trans e2), q2, fun Γ3 S3 H3 d3 v3 e3 R3 r3 q3 => by
        cases (show d2 = v2 from r2)
        cases (show d3 = v3 from r3)
        exact ⟨Γ3, S3, d1, Qd, R3, RV.mono (e2.trans e3) _ _ r1, q3, kq.mono ((e1.trans e2).trans e3)⟩, ke.mono (e1.trans e2)⟩, ke.mono e1⟩, ke⟩
end

/-! ### targets -/
abbrev MG := DV → DEnv → Store → (DEnv → Store → Prop) → Prop
def tGD (K : PySem.W.Frag) (g : MG) : TG := fun v σ H Q => ∃ Γ S δ d Qd, Cf K Γ S H δ σ ∧ RV K Γ d v ∧ g d δ S Qd ∧ ∀ Γ' S' H' δ' σ', Ext Γ Γ' → Cf K Γ' S' H' δ' σ' → Qd δ' S' → Q σ' H'
def DG (X : Cx) (e : Expr) (g : MG) : Prop := PG X e (tGD X.K g)
/-- names, in tuples maybe -/
inductive Tg where
  | nm (i : Nat) | tp (ts : List Tg)
mutual
def bindT : Tg → DV → DEnv → Option DEnv
  | .nm i, d, δ => some (δ.set i (some d))
  | .tp ts, .tup ds, δ => bindTs ts ds δ
  | .tp _, _, _ => none
def bindTs : List Tg → List DV → DEnv → Option DEnv
  | [], [], δ => some δ
  | t :: ts, d :: ds, δ => (match bindT t d δ with
    | some δ1 => bindTs ts ds δ1
    | none => none)
  | _, _, _ => none
end
mutual
def namesT : Tg → List Nat
  | .nm i => [i]
  | .tp ts => namesTs ts
def namesTs : List Tg → List Nat
  | [] => []
  | t :: ts => namesT t ++ namesTs ts
end
mutual
def tgV (K : PySem.W.Frag) : Tg → TG
  | .nm i => gName i
  | .tp ts => gTup K ts.length (tgVs K ts)
def tgVs (K : PySem.W.Frag) : List Tg → TGs
  | [] => gNil
  | t :: ts => gCons (tgV K t) (tgVs K ts)
end
def Agree (vs : List Nat) (σ σ' : L2.St) : Prop := σ'.length = σ.length ∧ ∀ i, i ∉ vs → σ'[i]? = σ[i]?
section
variable {K : PySem.W.Frag} {Γ : AG} {S : Store} {H : Hp}
mutual
theorem tgV_run : ∀ (t : Tg) (d : DV) (v : V) (δ δ' : DEnv) (σ : L2.St) (Q : L2.St → Hp → Prop), Cf K Γ S H δ σ → RV K Γ d v → bindT t d δ = some δ' → (∀ σ', Cf K Γ S H δ' σ' → Agree (namesT t) σ σ' → Q σ' H) → tgV K t v σ H Q
  | .nm i, d, v, δ, δ', σ, Q, c, r, e, q => by
    have e' : some (δ.set i (some d)) = some δ' := by simpa only [bindT] using e
    cases e'
    have h : Agree (namesT (.nm i)) σ (σ.set i (some v)) := by
      refine ⟨by rw [List.length_set], fun j hj => ?_⟩
      have hji : j ≠ i := by simpa [namesT] using hj
      rw [List.getElem?_set_ne (Ne.symm hji)]
    have g := q _ (c.set r) h
    simpa only [tgV, gName] using g
  | .tp ts, d, v, δ, δ', σ, Q, c, r, e, q => by
    cases d with
    | tup ds =>
      obtain ⟨p, vs, rfl, h2, h3⟩ := c.rs.tup r
      have e' : bindTs ts ds δ = some δ' := by simpa only [bindT] using e
      obtain ⟨hl, g⟩ := tgVs_run ts ds vs δ δ' σ Q c h3 e' (fun σ' c' a => q σ' c' (by simpa only [namesT] using a))
      have : gTup K ts.length (tgVs K ts) (.ref p) σ H Q := ⟨p, vs, rfl, h2, by rw [← hl, h3.length], g⟩
      simpa only [tgV] using this
    | _ => exact absurd e (by simp [bindT])
theorem tgVs_run : ∀ (ts : List Tg) (ds : List DV) (vs : List V) (δ δ' : DEnv) (σ : L2.St) (Q : L2.St → Hp → Prop), Cf K Γ S H δ σ → RVs K Γ ds vs → bindTs ts ds δ = some δ' → (∀ σ', Cf K Γ S H δ' σ' → Agree (namesTs ts) σ σ' → Q σ' H) → ds.length = ts.length ∧ tgVs K ts vs σ H Q
  | [], ds, vs, δ, δ', σ, Q, c, r, e, q => by
    cases ds with
    | nil =>
      have e' : some δ = some δ' := by simpa only [bindTs] using e
      cases e'
      refine ⟨rfl, ?_⟩
      have : gNil vs σ H Q := ⟨r, q σ c ⟨rfl, fun _ _ => rfl⟩⟩
      simpa only [tgVs] using this
    | cons a b => exact absurd e (by simp [bindTs])
  | t :: ts, ds, vs, δ, δ', σ, Q, c, r, e, q => by
    cases ds with
    | nil => exact absurd e (by simp [bindTs])
    | cons d ds =>
      obtain ⟨v, us, rfl, h1, h2⟩ := r
      have e' : (match bindT t d δ with
        | some δ1 => bindTs ts ds δ1
        | none => none) = some δ' := by simpa only [bindTs] using e
      cases h : bindT t d δ with
      | none =>
        rw [h] at e'
        cases e'
      | some δ1 =>
        rw [h] at e'
        have hl : ds.length = ts.length ∧ True := ⟨(len_bind ts ds δ1 δ' e'), trivial⟩
        refine ⟨by rw [List.length_cons, List.length_cons, hl.1], ?_⟩
        have : gCons (tgV K t) (tgVs K ts) (v :: us) σ H Q := by
          refine ⟨v, us, rfl, ?_⟩
          refine tgV_run t d v δ δ1 σ _ c h1 h fun σ1 c1 a1 => ?_
          refine (tgVs_run ts ds us δ1 δ' σ1 Q c1 h2 e' fun σ2 c2 a2 => ?_).2
          refine q σ2 c2 ⟨a2.1.trans a1.1, fun i hi => ?_⟩
          have hi' : i ∉ namesT t ++ namesTs ts := by simpa only [namesTs] using hi
          rw [a2.2 i (fun z => hi' (List.mem_append_right _ z)), a1.2 i (fun z => hi' (List.mem_append_left _ z))]
        simpa only [tgVs] using this
theorem len_bind : ∀ (ts : List Tg) (ds : List DV) (δ δ' : DEnv), bindTs ts ds δ = some δ' → ds.length = ts.length
  | [], [], _, _, _ => rfl
  | [], _ :: _, _, _, e => absurd e (by simp [bindTs])
  | _ :: _, [], _, _, e => absurd e (by simp [bindTs])
  | t :: ts, d :: ds, δ, δ', e => by
    have e' : (match bindT t d δ with
      | some δ1 => bindTs ts ds δ1
      | none => none) = some δ' := by simpa only [bindTs] using e
    cases h : bindT t d δ with
    | none =>
      rw [h] at e'
      cases e'
    | some δ1 =>
      rw [h] at e'
      rw [List.length_cons, List.length_cons, len_bind ts ds δ1 δ' e']
end
end
/-- the target's own judgement -/
def DTg (X : Cx) (e : Expr) (t : Tg) : Prop := PG X e (tgV X.K t)
def DTgs (X : Cx) (es : List Expr) (ts : List Tg) : Prop := PGs X es (tgVs X.K ts)
def gTg (t : Tg) : MG := fun d δ S Q => match bindT t d δ with
  | some δ' => Q δ' S
  | none => False
/-- a list (of the store, or unchanging) into names -/
def gUn (ts : List Tg) : MG := fun d δ S Q => match seqD S d with
  | some ds => (match bindTs ts ds δ with
    | some δ' => Q δ' S
    | none => False)
  | none => False
section
variable {X : Cx} {e : Expr} {es : List Expr} {t : Tg} {ts : List Tg} {pos : Pos}
theorem dg_nm {i : Nat} {x : Str} (hN : X.N.Nodup) (hi : X.N[i]? = some x := by rfl) (hx : Loc X.env.scope x := by first | exact Or.inl rfl | exact Or.inr rfl) (hf : X.fn x = true ∨ X.env.scope.names.lookup x = some .local := by first | exact .inl rfl | exact .inr rfl | assumption) : DTg X (.Name x pos) (.nm i) := by
  have h := pg_name (pos := pos) hN hi hx hf
  simpa only [DTg, tgV] using h
theorem dg_nil : DTgs X [] [] := by
  have h : PGs X [] gNil := pgs_nil
  simpa only [DTgs, tgVs] using h
theorem dg_cons (h1 : DTg X e t) (h2 : DTgs X es ts) (hs : (assignEach (e :: es) X.env).map (·.2) = assign e X.env :: (assignEach es X.env).map (·.2) := by rfl) : DTgs X (e :: es) (t :: ts) := by
  have h := pgs_cons (show PG X e (tgV X.K t) from h1) (show PGs X es (tgVs X.K ts) from h2) hs
  simpa only [DTgs, tgVs] using h
theorem dg_tp {k : Nat} (hc : X.calm = true) (h : DTgs X es ts) (hn : (assignEach es X.env).length = ts.length := by rfl) (hst : (assignEach es X.env).findIdx? (·.1) = none := by rfl) : DTg X (.Tuple es k pos) (.tp ts) := by
  have h2 := pg_tup (pos := pos) (k := k) hc (show PGs X es (tgVs X.K ts) from h) hn hst
  simpa only [DTg, tgV] using h2
theorem PG.imp {t t' : TG} (h : PG X e t) (i : ∀ v σ H Q, t' v σ H Q → t v σ H Q) : PG X e t' := ⟨fun pins s σ H v u Q I r q => h.run pins s σ H v u Q I r (i v σ H Q q)⟩
theorem dg_of (h : DTg X e t) : DG X e (gTg t) := PG.imp h fun v σ H Q ⟨Γ, S, δ, d, Qd, c, r, m, q⟩ => by
  have m' : (match bindT t d δ with
    | some δ' => Qd δ' S
    | none => False) := m
  cases e : bindT t d δ with
  | none =>
    rw [e] at m'
    exact m'.elim
  | some δ' =>
    rw [e] at m'
    exact tgV_run t d v δ δ' σ Q c r e fun σ' c' _ => q Γ S H δ' σ' (Ext.refl Γ) c' m'
theorem dg_un {k : Nat} (hc : X.calm = true) (h : DTgs X es ts) (hn : (assignEach es X.env).length = ts.length := by rfl) (hst : (assignEach es X.env).findIdx? (·.1) = none := by rfl) (hnt : ∀ cs : List DV, True := by intros; trivial) :
    DG X (.Tuple es k pos) (fun d δ S Q => (¬ ∃ cs, d = .tup cs) ∧ gUn ts d δ S Q) := PG.imp (pg_unl (pos := pos) (k := k) hc (show PGs X es (tgVs X.K ts) from h) hn hst) fun v σ H Q ⟨Γ, S, δ, d, Qd, c, r, ⟨nt, m⟩, q⟩ => by
  have m' : (match seqD S d with
    | some ds => (match bindTs ts ds δ with
      | some δ' => Qd δ' S
      | none => False)
    | none => False) := m
  cases e : seqD S d with
  | none =>
    rw [e] at m'
    exact m'.elim
  | some ds =>
    rw [e] at m'
    have m2 : (match bindTs ts ds δ with
      | some δ' => Qd δ' S
      | none => False) := m'
    cases e2 : bindTs ts ds δ with
    | none =>
      rw [e2] at m2
      exact m2.elim
    | some δ' =>
      rw [e2] at m2
      obtain ⟨p, vs, rfl, _, h2, _, h4⟩ := seqD_of c.rs r e
      obtain ⟨g1, g2⟩ := tgVs_run ts ds vs δ δ' σ Q c h2 e2 fun σ' c' _ => q Γ S H δ' σ' (Ext.refl Γ) c' m2
      exact ⟨p, vs, rfl, h4 nt, by rw [← h2.length, g1], g2⟩
end
end DL
/-! D layer, part 6: statements, loops, comprehensions. -/
namespace DL
open PySem PySem.Spec PyProof.Rows L2

def mNext : MS := fun D δ S => D.nx δ S
def mSeq (a b : MS) : MS := fun D δ S => a { D with nx := b D } δ S
def mExpr (a : ME) : MS := fun D δ S => a δ S (fun _ S1 => D.nx δ S1) (fun x S1 => D.ex x δ S1)
def mRet (a : ME) : MS := fun D δ S => a δ S D.rt (fun x S1 => D.ex x δ S1)
def mRetN : MS := fun D _ S => D.rt .non S
def mIfS (t : MT) (a b : MS) : MS := fun D δ S => t δ S (fun c S1 => match c with
  | true => a D δ S1
  | false => b D δ S1) (fun x S1 => D.ex x δ S1)
def mBreak : MS := fun D δ S => D.bk δ S
def mCont : MS := fun D δ S => D.ct δ S
def mSet (i : Nat) (a : ME) : MS := fun D δ S => a δ S (fun d S1 => D.nx (δ.set i (some d)) S1) (fun x S1 => D.ex x δ S1)
def mAsg (a : ME) (g : MG) : MS := fun D δ S => a δ S (fun d S1 => g d δ S1 D.nx) (fun x S1 => D.ex x δ S1)
/-- a, b = x, y and a, b, c = x, y, z of plain local names -/
def mPar2 (i j : Nat) (as : MA) : MS := fun D δ S => as δ S (fun ds S1 => match ds with
  | [d, e] => D.nx ((δ.set i (some d)).set j (some e)) S1
  | _ => False) (fun x S1 => D.ex x δ S1)
def mPar3 (i j l : Nat) (as : MA) : MS := fun D δ S => as δ S (fun ds S1 => match ds with
  | [d, e, f] => D.nx (((δ.set i (some d)).set j (some e)).set l (some f)) S1
  | _ => False) (fun x S1 => D.ex x δ S1)
/-! ### what is walked -/
abbrev MI := DEnv → Store → MK (List DV) → MX → Prop
/-- an iterator that gives just these items, whatever else happens -/
def ItD (K : PySem.W.Frag) (Γ : AG) (J : It) (xs : List DV) : Prop := ∀ Γ' S' H', Ext Γ ⟨Γ'.A, Γ'.G, Γ.F, Γ.T⟩ → Rs K Γ' S' H' → ∀ i, (xs.length ≤ i → J.stop i H') ∧
  ∀ d, xs[i]? = some d → J.go i H' ∧ ∀ v H'', J.yld i H' v H'' → ∃ Γ'', Ext Γ' Γ'' ∧ Rs K Γ'' S' H'' ∧ RV K Γ'' d v
def tID (K : PySem.W.Frag) (W : WX) (m : MI) : TI := fun σ H R => ∃ Γ S δ Qd Ed, Cf K Γ S H δ σ ∧ m δ S Qd Ed ∧ (∀ Γ' S' H' xs J, Ext Γ Γ' → Rs K Γ' S' H' → ItD K Γ' J xs → Qd xs S' → R J H') ∧ KE K W Γ σ Ed
def DI (X : Cx) (W : WX) (tg iter : Expr) (m : MI) : Prop := PI X tg iter (tID X.K W m)
theorem PI.imp {X : Cx} {tg iter : Expr} {t t' : TI} (h : PI X tg iter t) (i : ∀ σ H R, t' σ H R → t σ H R) : PI X tg iter t' := ⟨fun pins s σ H R I q => h.run pins s σ H R I (i σ H R q)⟩
def rngD (lo : Int) : Nat → List DV
  | 0 => []
  | n + 1 => .int lo :: rngD (lo + 1) n
theorem rngD_len : ∀ (lo : Int) (n : Nat), (rngD lo n).length = n
  | _, 0 => rfl
  | lo, n + 1 => by rw [rngD, List.length_cons, rngD_len]
theorem rngD_get : ∀ (lo : Int) (n i : Nat), i < n → (rngD lo n)[i]? = some (.int (lo + i))
  | lo, 0, i, h => absurd h (Nat.not_lt_zero _)
  | lo, n + 1, 0, h => by simp [rngD]
  | lo, n + 1, i + 1, h => by
    rw [rngD, List.getElem?_cons_succ, rngD_get (lo + 1) n i (by omega)]
    congr 2
    omega
def iR1 (as : MA) : MI := fun δ S Q E => as δ S (fun ds S1 => match ds with
  | [.int j] => -(2 ^ 62) ≤ j ∧ j < 2 ^ 62 ∧ Q (rngD 0 j.toNat) S1
  | _ => False) E
def iR2 (as : MA) : MI := fun δ S Q E => as δ S (fun ds S1 => match ds with
  | [.int i, .int j] => (-(2 ^ 62) ≤ i ∧ i < 2 ^ 62 ∧ -(2 ^ 62) ≤ j ∧ j < 2 ^ 62) ∧ Q (rngD i (j - i).toNat) S1
  | _ => False) E
def pairs : List DV → List DV → List DV
  | x :: xs, y :: ys => .tup [x, y] :: pairs xs ys
  | _, _ => []
theorem pairs_len : ∀ xs ys : List DV, (pairs xs ys).length = min xs.length ys.length
  | [], ys => by simp [pairs]
  | x :: xs, [] => by simp [pairs]
  | x :: xs, y :: ys => by
    rw [pairs, List.length_cons, pairs_len, List.length_cons, List.length_cons]
    omega
theorem pairs_get : ∀ (xs ys : List DV) (i : Nat) (d : DV), (pairs xs ys)[i]? = some d → ∃ x y, xs[i]? = some x ∧ ys[i]? = some y ∧ d = .tup [x, y]
  | [], ys, i, d, h => by simp [pairs] at h
  | x :: xs, [], i, d, h => by simp [pairs] at h
  | x :: xs, y :: ys, 0, d, h => by
    rw [pairs] at h
    exact ⟨x, y, rfl, rfl, by simpa using h.symm⟩
  | x :: xs, y :: ys, i + 1, d, h => by
    rw [pairs, List.getElem?_cons_succ] at h
    obtain ⟨a, b, h1, h2, h3⟩ := pairs_get xs ys i d h
    exact ⟨a, b, by simpa using h1, by simpa using h2, h3⟩
/-- zip of two tuples, of two unchanging lists -/
def iZ (as : MA) : MI := fun δ S Q E => as δ S (fun ds S1 => match ds with
  | [.tup xs, .tup ys] => Q (pairs xs ys) S1
  | [.lst xs, .lst ys] => Q (pairs xs ys) S1
  | _ => False) E
def enum : Nat → List DV → List DV
  | _, [] => []
  | n, x :: xs => .tup [.int (n : Int), x] :: enum (n + 1) xs
theorem enum_len : ∀ (n : Nat) (xs : List DV), (enum n xs).length = xs.length
  | _, [] => rfl
  | n, x :: xs => by rw [enum, List.length_cons, enum_len, List.length_cons]
theorem enum_get : ∀ (n : Nat) (xs : List DV) (i : Nat) (d : DV), (enum n xs)[i]? = some d → ∃ x, xs[i]? = some x ∧ d = .tup [.int ((n + i : Nat) : Int), x]
  | n, [], i, d, h => by simp [enum] at h
  | n, x :: xs, 0, d, h => by
    rw [enum] at h
    exact ⟨x, rfl, by simpa using h.symm⟩
  | n, x :: xs, i + 1, d, h => by
    rw [enum, List.getElem?_cons_succ] at h
    obtain ⟨a, h1, h2⟩ := enum_get (n + 1) xs i d h
    exact ⟨a, by simpa using h1, by rw [h2]; congr 4; omega⟩
def iE (as : MA) : MI := fun δ S Q E => as δ S (fun ds S1 => match ds with
  | [.tup xs] => Q (enum 0 xs) S1
  | [.lst xs] => Q (enum 0 xs) S1
  | _ => False) E

theorem inv_int1 {ds : List DV} {P : Int → Prop} (h : (match ds with
  | [.int j] => P j
  | _ => False)) : ∃ j, ds = [.int j] ∧ P j := by
  cases ds with
  | nil => exact h.elim
  | cons d r =>
    cases r with
    | nil => cases d <;> first | exact ⟨_, rfl, h⟩ | exact False.elim h
    | cons d2 r => cases d <;> exact False.elim h
theorem inv_two {ds : List DV} {P : DV → DV → Prop} (h : (match ds with
  | [d, e] => P d e
  | _ => False)) : ∃ d e, ds = [d, e] ∧ P d e := by
  cases ds with
  | nil => exact h.elim
  | cons d r =>
    cases r with
    | nil => exact False.elim h
    | cons d2 r =>
      cases r with
      | nil => exact ⟨_, _, rfl, h⟩
      | cons d3 r => exact False.elim h
theorem inv_zip {ds : List DV} {P : List DV → List DV → Prop} (h : (match ds with
  | [.tup xs, .tup ys] => P xs ys
  | [.lst xs, .lst ys] => P xs ys
  | _ => False)) : ∃ xs ys, (ds = [.tup xs, .tup ys] ∨ ds = [.lst xs, .lst ys]) ∧ P xs ys := by
  cases ds with
  | nil => exact h.elim
  | cons d r =>
    cases r with
    | nil => cases d <;> exact False.elim h
    | cons d2 r =>
      cases r with
      | nil => cases d <;> first | (cases d2 <;> first | exact ⟨_, _, .inl rfl, h⟩ | exact ⟨_, _, .inr rfl, h⟩ | exact False.elim h) | exact False.elim h
      | cons d3 r => cases d <;> first | exact False.elim h | (cases d2 <;> exact False.elim h)

section
variable {X : Cx} {W : WX} {e tg iter : Expr} {es : List Expr} {me : ME} {mas : MA} {pos p tpos : Pos} {elts : List Expr} {kk : Nat}
theorem itd_tup {K : PySem.W.Frag} {Γ : AG} {p : Addr} {vs : List V} {ds : List DV} (h1 : SqT K Γ.G p vs) (h2 : RVs K Γ ds vs) : ItD K Γ (Itt K p) ds := fun Γ' S' H' E R i => by
  have hq : SqT K H' p vs := sqT_sub R.sub (sqT_sub E.sub h1)
  refine ⟨fun hi => ⟨vs, hq, by rw [← h2.length]; exact hi⟩, fun d e => ?_⟩
  obtain ⟨v, g1, g2⟩ := h2.get e
  refine ⟨⟨vs, v, hq, g1⟩, fun w H'' y => ?_⟩
  obtain ⟨e1, y⟩ := y
  subst e1
  have e2 := y vs hq
  rw [g1] at e2
  cases e2
  exact ⟨Γ', Ext.refl _, R, RV.mono E _ _ g2⟩
theorem itd_lst {K : PySem.W.Frag} {Γ : AG} {p : Addr} {vs : List V} {ds : List DV} (h1 : SqL K Γ.G p vs) (h2 : RVs K Γ ds vs) : ItD K Γ (Itl K p) ds := fun Γ' S' H' E R i => by
  have hq : SqL K H' p vs := sqL_sub R.sub (sqL_sub E.sub h1)
  refine ⟨fun hi => ⟨vs, hq, by rw [← h2.length]; exact hi⟩, fun d e => ?_⟩
  obtain ⟨v, g1, g2⟩ := h2.get e
  refine ⟨⟨vs, v, hq, g1⟩, fun w H'' y => ?_⟩
  obtain ⟨e1, y⟩ := y
  subst e1
  have e2 := y vs hq
  rw [g1] at e2
  cases e2
  exact ⟨Γ', Ext.refl _, R, RV.mono E _ _ g2⟩
theorem itd_rng {K : PySem.W.Frag} {Γ : AG} {lo : Int} {n : Nat} : ItD K Γ (Itr lo n) (rngD lo n) := fun Γ' S' H' E R i => by
  refine ⟨fun hi => by rw [rngD_len] at hi; exact hi, fun d e => ?_⟩
  have hi : i < n := by
    have := (List.getElem?_eq_some_iff.mp e).1
    rw [rngD_len] at this
    exact this
  rw [rngD_get lo n i hi] at e
  cases e
  refine ⟨hi, fun v H'' y => ?_⟩
  obtain ⟨e1, e2⟩ := y
  subst e1 e2
  exact ⟨Γ', Ext.refl _, R, rfl⟩
/-- an item that is a new pair -/
theorem itd_pair {K : PySem.W.Frag} {Γ : AG} {S : Store} {H : Hp} (R : Rs K Γ S H) {T : Addr} {x y : V} {a b : DV} (hT : H T = none) (ra : RV K Γ a x) (rb : RV K Γ b y) : ∃ Γ'', Ext Γ Γ'' ∧ Rs K Γ'' S (upd H T (.tup [x, y])) ∧ RV K Γ'' (.tup [a, b]) (.ref T) :=
  ⟨_, R.ext hT _, R.laid hT _, T, [x, y], rfl, upd_same, x, [y], rfl, RV.mono (R.ext hT _) _ _ ra, y, [], rfl, RV.mono (R.ext hT _) _ _ rb, rfl⟩
theorem itd_zipT {K : PySem.W.Frag} {Γ : AG} {p q : Addr} {vs us : List V} {ds es : List DV} (h1 : SqT K Γ.G p vs) (h2 : RVs K Γ ds vs) (g1 : SqT K Γ.G q us) (g2 : RVs K Γ es us) : ItD K Γ (RZ.ItzT K p q) (pairs ds es) := fun Γ' S' H' E R i => by
  have hq : SqT K H' p vs := sqT_sub R.sub (sqT_sub E.sub h1)
  have gq : SqT K H' q us := sqT_sub R.sub (sqT_sub E.sub g1)
  refine ⟨fun hi => ⟨vs, us, hq, gq, ?_⟩, fun d e => ?_⟩
  · rw [pairs_len] at hi
    rw [← h2.length, ← g2.length]
    omega
  · obtain ⟨x, y, ex, ey, rfl⟩ := pairs_get ds es i d e
    obtain ⟨v, k1, k2⟩ := h2.get ex
    obtain ⟨w, l1, l2⟩ := g2.get ey
    refine ⟨⟨vs, us, v, w, hq, gq, k1, l1⟩, fun z H'' yl => ?_⟩
    obtain ⟨T, x', y', rfl, hT, rfl, y1, y2⟩ := yl
    have e1 := y1 vs hq
    have e2 := y2 us gq
    rw [k1] at e1
    rw [l1] at e2
    cases e1
    cases e2
    exact itd_pair R hT (RV.mono E _ _ k2) (RV.mono E _ _ l2)
theorem itd_zipL {K : PySem.W.Frag} {Γ : AG} {p q : Addr} {vs us : List V} {ds es : List DV} (h1 : SqL K Γ.G p vs) (h2 : RVs K Γ ds vs) (g1 : SqL K Γ.G q us) (g2 : RVs K Γ es us) : ItD K Γ (Itz K p q) (pairs ds es) := fun Γ' S' H' E R i => by
  have hq : SqL K H' p vs := sqL_sub R.sub (sqL_sub E.sub h1)
  have gq : SqL K H' q us := sqL_sub R.sub (sqL_sub E.sub g1)
  refine ⟨fun hi => ⟨vs, us, hq, gq, ?_⟩, fun d e => ?_⟩
  · rw [pairs_len] at hi
    rw [← h2.length, ← g2.length]
    omega
  · obtain ⟨x, y, ex, ey, rfl⟩ := pairs_get ds es i d e
    obtain ⟨v, k1, k2⟩ := h2.get ex
    obtain ⟨w, l1, l2⟩ := g2.get ey
    refine ⟨⟨vs, us, v, w, hq, gq, k1, l1⟩, fun z H'' yl => ?_⟩
    obtain ⟨T, x', y', rfl, hT, rfl, y1, y2⟩ := yl
    have e1 := y1 vs hq
    have e2 := y2 us gq
    rw [k1] at e1
    rw [l1] at e2
    cases e1
    cases e2
    exact itd_pair R hT (RV.mono E _ _ k2) (RV.mono E _ _ l2)
theorem itd_enumL {K : PySem.W.Frag} {Γ : AG} {p : Addr} {vs : List V} {ds : List DV} (h1 : SqL K Γ.G p vs) (h2 : RVs K Γ ds vs) : ItD K Γ (Ite K p) (enum 0 ds) := fun Γ' S' H' E R i => by
  have hq : SqL K H' p vs := sqL_sub R.sub (sqL_sub E.sub h1)
  refine ⟨fun hi => ⟨vs, hq, by rw [enum_len] at hi; rw [← h2.length]; exact hi⟩, fun d e => ?_⟩
  obtain ⟨x, ex, rfl⟩ := enum_get 0 ds i d e
  obtain ⟨v, k1, k2⟩ := h2.get ex
  refine ⟨⟨vs, v, hq, k1⟩, fun z H'' yl => ?_⟩
  obtain ⟨T, x', rfl, hT, rfl, y1⟩ := yl
  have e1 := y1 vs hq
  rw [k1] at e1
  cases e1
  refine itd_pair R hT ?_ (RV.mono E _ _ k2)
  show V.int ((i : Nat) : Int) = V.int ((0 + i : Nat) : Int)
  rw [Nat.zero_add]
theorem di_r1 (hg : Gl X "range") (hm : X.mg "range" = none) (ha : DA X W [e] mas) (hs : starEach [e] X.env = [(false, eval e X.env)] := by rfl) : DI X W tg (.Call (.Name "range" p) [e] [] pos) (iR1 mas) :=
  PI.imp (pi_range1 hg hm ha hs) fun σ H R ⟨Γ, S, δ, Qd, Ed, c, m, kq, ke⟩ => ⟨Γ, S, δ, _, Ed, c, m, fun Γ1 S1 H1 ds vs e1 R1 r1 q1 => by
    obtain ⟨j, rfl, h1, h2, q1⟩ := inv_int1 q1
    obtain ⟨v, rfl, r⟩ := r1.one
    cases r.int
    exact ⟨j, rfl, h1, h2, kq Γ1 S1 H1 _ _ e1 R1 itd_rng q1⟩, ke⟩
theorem di_z {e2 : Expr} (hg : Gl X "zip") (hm : X.mg "zip" = none) (ha : DA X W [e, e2] mas) (hs : starEach [e, e2] X.env = (false, eval e X.env) :: starEach [e2] X.env := by rfl) (hpl : (backTo pos (starEach [e2] X.env)).any (·.1) = false := by rfl) :
    DI X W (.Tuple elts kk tpos) (.Call (.Name "zip" p) [e, e2] [] pos) (iZ mas) :=
  PI.imp (RZ.pi_zipA hg hm ha hs hpl) fun σ H R ⟨Γ, S, δ, Qd, Ed, c, m, kq, ke⟩ => ⟨Γ, S, δ, _, Ed, c, m, fun Γ1 S1 H1 ds vs e1 R1 r1 q1 => by
    obtain ⟨xs, ys, rfl | rfl, q1⟩ := inv_zip q1
    · obtain ⟨v, w, rfl, ⟨a, as, rfl, h1, h2⟩, ⟨b, bs, rfl, g1, g2⟩⟩ := r1.two
      exact ⟨a, b, as, bs, rfl, .inr ⟨sqT_sub R1.sub (.of h1), sqT_sub R1.sub (.of g1), kq Γ1 S1 H1 _ _ e1 R1 (itd_zipT (.of h1) h2 (.of g1) g2) q1⟩⟩
    · obtain ⟨v, w, rfl, ⟨a, as, rfl, h1, h2⟩, ⟨b, bs, rfl, g1, g2⟩⟩ := r1.two
      exact ⟨a, b, as, bs, rfl, .inl ⟨SqL.of (R1.sub _ _ h1), SqL.of (R1.sub _ _ g1), kq Γ1 S1 H1 _ _ e1 R1 (itd_zipL (SqL.of h1) h2 (SqL.of g1) g2) q1⟩⟩, ke⟩

/-! ### statements -/
variable {a b c : List Stmt} {st : Stmt} {ma mb : MS} {mt : MT}
theorem d_bnil : DB X W [] mNext := PSs.imp pss_nil fun D σ H ⟨Γ, S, δ, Dd, c, m, er⟩ => er.nx Γ S H δ σ (Ext.refl Γ) c m
theorem ER.next {K : PySem.W.Frag} {Γ : AG} {Dd : EndsD} {D : Ends} (er : ER K W Γ Dd D) {mb : MS} : ER K W Γ { Dd with nx := mb Dd } { D with nx := tSD K W mb D } :=
  ⟨fun Γ' S' H' δ' σ' e c q => ⟨Γ', S', δ', Dd, c, q, er.mono e⟩, er.rt, er.bk, er.ct, er.ex⟩
theorem d_bcons (h1 : DS X W st ma) (h2 : DB X W b mb) : DB X W (st :: b) (mSeq ma mb) :=
  PSs.imp (pss_cons h1 h2) fun D σ H ⟨Γ, S, δ, Dd, c, m, er⟩ => ⟨Γ, S, δ, _, c, m, er.next⟩
theorem d_bone (h1 : DS X W st ma) : DB X W [st] ma := pss_one h1
theorem d_expr (he : DE X W e me) (hs : swapsWith e none pos.line X.env = pure false := by rfl) : DS X W (.Expr e pos) (mExpr me) :=
  PS.imp (ps_expr he hs) fun D σ H ⟨Γ, S, δ, Dd, c, m, er⟩ => ⟨Γ, S, δ, _, _, c, m, fun Γ1 S1 H1 d1 v1 e1 R1 r1 q1 => er.nx Γ1 S1 H1 δ σ e1 (c.mk' R1 e1) q1, er.ke c⟩
theorem d_ret (he : DE X W e me) : DS X W (.Return (some e) pos) (mRet me) :=
  PS.imp (ps_ret he) fun D σ H ⟨Γ, S, δ, Dd, c, m, er⟩ => ⟨Γ, S, δ, _, _, c, m, fun Γ1 S1 H1 d1 v1 e1 R1 r1 q1 => er.rt Γ1 S1 H1 d1 v1 e1 R1 r1 q1, er.ke c⟩
theorem d_if {t : Expr} (ht : DT X W t mt) (ha : DB X W a ma) (hb : DB X W b mb) : DS X W (.If t a b pos) (mIfS mt ma mb) :=
  PS.imp (ps_if ht ha hb) fun D σ H ⟨Γ, S, δ, Dd, c, m, er⟩ => ⟨Γ, S, δ, _, _, c, m, fun Γ1 S1 H1 d1 v1 e1 R1 r1 q1 => by
    cases (show d1 = v1 from r1)
    cases d1 with
    | true =>
      rw [if_pos rfl]
      exact ⟨Γ1, S1, δ, Dd, c.mk' R1 e1, q1, er.mono e1⟩
    | false =>
      rw [if_neg Bool.false_ne_true]
      exact ⟨Γ1, S1, δ, Dd, c.mk' R1 e1, q1, er.mono e1⟩, er.ke c⟩
theorem d_set {i : Nat} {x : Str} {pos' : Pos} (hN : X.N.Nodup) (he : DE X W e me) (hi : X.N[i]? = some x := by rfl) (hx : Loc X.env.scope x := by first | exact Or.inl rfl | exact Or.inr rfl) (hs : swapsWith e (some (.Name x pos')) pos.line X.env = pure false := by rfl)
    (hf : X.fn x = true ∨ X.env.scope.names.lookup x = some .local := by first | exact .inl rfl | exact .inr rfl | assumption) : DS X W (.Assign [.Name x pos'] e pos) (mSet i me) :=
  PS.imp (ps_set hN hi hx he hs hf) fun D σ H ⟨Γ, S, δ, Dd, c, m, er⟩ => ⟨Γ, S, δ, _, _, c, m, fun Γ1 S1 H1 d1 v1 e1 R1 r1 q1 => er.nx Γ1 S1 H1 _ _ e1 ((c.mk' R1 e1).set r1) q1, er.ke c⟩
theorem d_asg {g : MG} (he : DE X W e me) (hg : DG X tg g) (hs : swapsWithSole [tg] e pos.line X.env = pure false := by rfl) (hw : swappedStores [tg] e X.env = pure none := by rfl)
    (h1 : (assignEach [tg] X.env).map (·.2) = [assign tg X.env] := by rfl) : DS X W (.Assign [tg] e pos) (mAsg me g) :=
  PS.imp (ps_asg he hg hs hw h1) fun D σ H ⟨Γ, S, δ, Dd, c, m, er⟩ => ⟨Γ, S, δ, _, _, c, m, fun Γ1 S1 H1 d1 v1 e1 R1 r1 q1 => ⟨Γ1, S1, δ, d1, _, c.mk' R1 e1, r1, q1, fun Γ2 S2 H2 δ2 σ2 e2 c2 q2 => er.nx Γ2 S2 H2 δ2 σ2 (e1.trans e2) c2 q2⟩, er.ke c⟩
theorem d_par2 {i j : Nat} {x y : Str} {a b : Expr} {px py pt : Pos} {kt k2 pt2} (hc : X.calm = true) (hN : X.N.Nodup) (ha : DA X W [a, b] mas) (hi : X.N[i]? = some x := by rfl) (hj : X.N[j]? = some y := by rfl) (hij : i ≠ j := by decide)
    (hx : X.env.scope.names.lookup x = some .local := by rfl) (hy : X.env.scope.names.lookup y = some .local := by rfl)
    (hw : swappedStores [.Tuple [.Name x px, .Name y py] kt pt] (.Tuple [a, b] k2 pt2) X.env = pure (some [x, y]) := by rfl)
    (hs : swapsWithSole [.Tuple [.Name x px, .Name y py] kt pt] (.Tuple [a, b] k2 pt2) pos.line X.env = pure false := by rfl) :
    DS X W (.Assign [.Tuple [.Name x px, .Name y py] kt pt] (.Tuple [a, b] k2 pt2) pos) (mPar2 i j mas) :=
  PS.imp (ps_par hc hN hi hj hij hx hy ha hw hs) fun D σ H ⟨Γ, S, δ, Dd, c, m, er⟩ => ⟨Γ, S, δ, _, _, c, m, fun Γ1 S1 H1 ds vs e1 R1 r1 q1 => by
    obtain ⟨d, d2, rfl, q1⟩ := inv_two q1
    obtain ⟨v, w, rfl, r, r'⟩ := r1.two
    exact ⟨v, w, rfl, er.nx Γ1 S1 H1 _ _ e1 (((c.mk' R1 e1).set r).set r') q1⟩, er.ke c⟩
theorem RVs.three {K : PySem.W.Frag} {Γ : AG} {d e f : DV} {vs : List V} (r : RVs K Γ [d, e, f] vs) : ∃ u v w, vs = [u, v, w] ∧ RV K Γ d u ∧ RV K Γ e v ∧ RV K Γ f w := by
  obtain ⟨u, us, rfl, h1, h2⟩ := r
  obtain ⟨v, w, rfl, h3, h4⟩ := RVs.two (Γ := Γ) h2
  exact ⟨u, v, w, rfl, h1, h3, h4⟩
/-! ### for -/
def forGo (g : MG) (tb : MS) (D : EndsD) : List DV → DEnv → Store → Prop
  | [], δ, S => D.nx δ S
  | x :: xs, δ, S => g x δ S fun δ1 S1 => tb { D with nx := forGo g tb D xs, ct := forGo g tb D xs, bk := D.nx } δ1 S1
def mFor (it : MI) (g : MG) (tb : MS) : MS := fun D δ S => it δ S (fun xs S1 => forGo g tb D xs δ S1) (fun x S1 => D.ex x δ S1)
theorem d_for {g : MG} {mi : MI} (hp : PassesOwn (model X.prog X.w) X.A X.env X.xe) (hc : X.calm = true) (hi : DI X W tg iter mi) (hg : DG X tg g) (hb : DB X W b mb) (hs : ∀ x, foldedSetIterable iter X.env x = pure x := by intro _; rfl) :
    DS X W (.For tg iter b [] pos) (mFor mi g mb) :=
  PS.imp (ps_for hp hc hi hg hb hs) fun D σ H ⟨Γ, S, δ, Dd, c, m, er⟩ => ⟨Γ, S, δ, _, _, c, m, fun Γ1 S1 H1 xs J e1 R1 it q1 => by
    refine ⟨fun i n σ' H' => n = xs.length - i ∧ ∃ Γ' S' δ', Ext Γ1 Γ' ∧ Cf X.K Γ' S' H' δ' σ' ∧ forGo g mb Dd (xs.drop i) δ' S', ⟨xs.length - 0, rfl, Γ1, S1, δ, Ext.refl Γ1, c.mk' R1 e1, q1⟩, ?_⟩
    rintro i n σ2 H2 ⟨rfl, Γ2, S2, δ2, e2, c2, w2⟩
    obtain ⟨it1, it2⟩ := it Γ2 S2 H2 ⟨e2.pre, e2.sub, rfl, rfl⟩ c2.rs i
    by_cases hi : i < xs.length
    · have ed : xs.drop i = xs[i] :: xs.drop (i + 1) := List.drop_eq_getElem_cons hi
      rw [ed] at w2
      obtain ⟨go, yl⟩ := it2 xs[i] (by simp [hi])
      refine .inr ⟨go, fun σ' H' => ∃ Γ' S' δ', Ext Γ1 Γ' ∧ Cf X.K Γ' S' H' δ' σ' ∧ forGo g mb Dd (xs.drop (i + 1)) δ' S', fun σ' H' h => ⟨xs.length - (i + 1), by omega, rfl, h⟩, fun v H3 y => ?_⟩
      obtain ⟨Γ3, e3, R3, r3⟩ := yl v H3 y
      refine ⟨Γ3, S2, δ2, xs[i], _, c2.mk' R3 e3, r3, w2, fun Γ4 S4 H4 δ4 σ4 e4 c4 q4 => ?_⟩
      have again : ∀ Γ' S' H' δ' σ', Ext Γ4 Γ' → Cf X.K Γ' S' H' δ' σ' → forGo g mb Dd (xs.drop (i + 1)) δ' S' → ∃ Γ' S' δ', Ext Γ1 Γ' ∧ Cf X.K Γ' S' H' δ' σ' ∧ forGo g mb Dd (xs.drop (i + 1)) δ' S' := fun Γ' S' H' δ' σ' e5 c5 w5 => ⟨Γ', S', δ', ((e2.trans e3).trans e4).trans e5, c5, w5⟩
      have er4 := er.mono (((e1.trans e2).trans e3).trans e4)
      exact ⟨Γ4, S4, δ4, _, c4, q4, again, er4.rt, er4.nx, again, er4.ex⟩
    · have hd : xs.drop i = [] := List.drop_eq_nil_of_le (by omega)
      rw [hd] at w2
      exact .inl ⟨it1 (by omega), er.nx Γ2 S2 H2 δ2 σ2 (e1.trans e2) c2 w2⟩, er.ke c⟩
end
/-! ### comprehensions -/
def wipeD (δ : DEnv) : List Nat → DEnv
  | [] => δ
  | v :: vs => (wipeD δ vs).set v none
theorem Cf.wipe {K : PySem.W.Frag} {Γ : AG} {S : Store} {H : Hp} {δ : DEnv} {σ : L2.St} (c : Cf K Γ S H δ σ) : ∀ vs : List Nat, Cf K Γ S H (wipeD δ vs) (L2.wipe σ vs)
  | [] => c
  | v :: vs => by
    have h := Cf.wipe c vs
    refine ⟨h.rs, ?_, fun i d e => ?_⟩
    · show ((wipeD δ vs).set v none).length = ((L2.wipe σ vs).set v none).length
      rw [List.length_set, List.length_set]
      exact h.len
    · have e' : ((wipeD δ vs).set v none)[i]? = some (some d) := e
      by_cases hi : v = i
      · subst hi
        by_cases hl : v < (wipeD δ vs).length
        · rw [List.getElem?_set_self hl] at e'
          cases e'
        · rw [List.getElem?_eq_none (by simpa using hl)] at e'
          cases e'
      · rw [List.getElem?_set_ne hi] at e'
        obtain ⟨w, h1, h2⟩ := h.ls i d e'
        refine ⟨w, ?_, h2⟩
        show ((L2.wipe σ vs).set v none)[i]? = some (some w)
        rw [List.getElem?_set_ne hi]
        exact h1
theorem wipe_agree {σ σ' : L2.St} : ∀ {vs : List Nat}, Agree vs σ σ' → L2.wipe σ' vs = L2.wipe σ vs := by
  intro vs a
  have gen : ∀ us : List Nat, (∀ i, i ∉ us → i ∉ vs → (L2.wipe σ' us)[i]? = (L2.wipe σ us)[i]?) ∧ ∀ i, i ∈ us → (L2.wipe σ' us)[i]? = (L2.wipe σ us)[i]? := by
    intro us
    induction us with
    | nil => exact ⟨fun i _ h => a.2 i h, fun i h => nomatch h⟩
    | cons u us ih =>
      refine ⟨fun i hi hv => ?_, fun i hi => ?_⟩
      · have h1 : u ≠ i := fun e => hi (by rw [e]; exact List.mem_cons_self)
        show ((L2.wipe σ' us).set u none)[i]? = ((L2.wipe σ us).set u none)[i]?
        rw [List.getElem?_set_ne h1, List.getElem?_set_ne h1]
        exact ih.1 i (fun z => hi (List.mem_cons_of_mem _ z)) hv
      · show ((L2.wipe σ' us).set u none)[i]? = ((L2.wipe σ us).set u none)[i]?
        by_cases h1 : u = i
        · subst h1
          have hl : (L2.wipe σ' us).length = (L2.wipe σ us).length := by rw [wipe_length, wipe_length]; exact a.1
          by_cases h2 : u < (L2.wipe σ' us).length
          · rw [List.getElem?_set_self h2, List.getElem?_set_self (by rw [← hl]; exact h2)]
          · rw [List.getElem?_eq_none (by simpa using h2), List.getElem?_eq_none (by rw [List.length_set, ← hl]; omega)]
        · rw [List.getElem?_set_ne h1, List.getElem?_set_ne h1]
          rcases List.mem_cons.mp hi with e | e
          · exact absurd e.symm h1
          · exact ih.2 i e
  refine List.ext_getElem? fun i => ?_
  by_cases hi : i ∈ vs
  · exact (gen vs).2 i hi
  · exact (gen vs).1 i hi hi
def noE : MX := fun _ _ => False
def noW : WX := fun _ _ _ _ => False
def lcGo (t : Tg) (tt : MT) (te : ME) (δ : DEnv) : List DV → List DV → Store → MK (List DV) → Prop
  | [], acc, S, Q => Q acc S
  | x :: xs, acc, S, Q => match bindT t x δ with
    | some δ1 => tt δ1 S (fun b S1 => match b with
      | true => te δ1 S1 (fun y S2 => acc.length < 16777216 ∧ lcGo t tt te δ xs (acc ++ [y]) S2 Q) noE
      | false => lcGo t tt te δ xs acc S1 Q) noE
    | none => False
/-- the list is never changed | may be changed -/
def mLc (it : MI) (t : Tg) (tt : MT) (te : ME) (vs : List Nat) : ME := fun δ S Q E => it δ S (fun xs S1 => lcGo t tt te (wipeD δ vs) xs [] S1 (fun ys S2 => Q (.lst ys) S2)) E
def mLcO (it : MI) (t : Tg) (tt : MT) (te : ME) (vs : List Nat) : ME := fun δ S Q E => it δ S (fun xs S1 => lcGo t tt te (wipeD δ vs) xs [] S1 (fun ys S2 => Q (.ref S2.length) (S2 ++ [some (.lst ys)]))) E
def mYes : MT := fun _ S Q _ => Q true S
def DTs (X : Cx) (W : WX) (ifs : List Expr) (m : MT) : Prop := PTs X ifs (tG relB X.K W m)
section
variable {X : Cx} {W : WX} {elt tg iter : Expr} {ifs : List Expr} {scope : Scope} {own : List (Str × Nat)} {pos : Pos} {mi : MI} {t : Tg} {mt : MT} {me : ME}
theorem PTs.imp {t t' : TT} (h : PTs X ifs t) (i : ∀ σ H Q, t' σ H Q → t σ H Q) : PTs X ifs t' := ⟨fun pins s σ H Q I q => h.run pins s σ H Q I (i σ H Q q)⟩
theorem d_yes : DTs X W [] mYes := PTs.imp pts_nil fun σ H Q ⟨Γ, S, δ, Qd, Ed, c, m, kq, ke⟩ => kq Γ S H true true (Ext.refl Γ) c.rs rfl m
theorem d_ifs {c : Expr} (h : DT X W c mt) : DTs X W [c] mt := pts_one h
/-- the new list is at D, apart from all that the items are made of: it is given to the heap's unchanging part at the end -/
theorem lc_run {Γ : AG} {S : Store} {H1 : Hp} {δ : DEnv} {σ : L2.St} {xs : List DV} {J : It} {Q : VK} (vs : List Nat) (hn : ∀ i ∈ namesT t, i ∈ vs) {Qd : MK (List DV)} (c1 : Cf X.K Γ S H1 δ σ) (it : ItD X.K Γ J xs) (q1 : lcGo t mt me (wipeD δ vs) xs [] S Qd)
    (fin : ∀ A' G' S' H' D ys us, Ext Γ ⟨A', G', Γ.F, Γ.T⟩ → H1 D = none → Γ.F D = none → Rs X.K ⟨A', G', upd Γ.F D (.lst us), Γ.T⟩ S' H' → RVs X.K ⟨A', G', Γ.F, Γ.T⟩ ys us → Qd ys S' → Q (.ref D) H') :
    ∀ D, H1 D = none → ∃ W1 : Nat → Nat → Hp → Prop, (∃ m, W1 0 m (upd H1 D (.lst []))) ∧ ∀ i m H, W1 i m H →
      (J.stop i H ∧ Q (.ref D) H) ∨ (J.go i H ∧ ∃ Nx : Hp → Prop, (∀ H', Nx H' → ∃ m', m' < m ∧ W1 (i + 1) m' H') ∧ ∀ x H', J.yld i H x H' → tgV X.K t x (L2.wipe σ vs) H' fun σ2 H2 => L2.wipe σ2 vs = L2.wipe σ vs ∧ tG relB X.K noW mt σ2 H2 fun b H3 =>
        if b = true then tG (RV X.K) X.K noW me σ2 H3 fun y H4 => ∃ acc, H4 D = some (.lst acc) ∧ acc.length < sizeLine ∧ Nx (upd H4 D (.lst (acc ++ [y]))) else Nx H3) := by
  intro D hD
  have hF := c1.rs.noF hD
  refine ⟨fun i m H => m = xs.length - i ∧ ∃ A' G' S' ys us, Ext Γ ⟨A', G', Γ.F, Γ.T⟩ ∧ Rs X.K ⟨A', G', upd Γ.F D (.lst us), Γ.T⟩ S' H ∧ RVs X.K ⟨A', G', Γ.F, Γ.T⟩ ys us ∧ lcGo t mt me (wipeD δ vs) (xs.drop i) ys S' Qd,
    ⟨xs.length - 0, rfl, Γ.A, Γ.G, S, [], [], Ext.refl Γ, c1.rs.hold hD _, rfl, q1⟩, ?_⟩
  rintro i m H2 ⟨rfl, A2, G2, S2, ys, us, e2, R2, r2, w2⟩
  obtain ⟨it1, it2⟩ := it ⟨A2, G2, upd Γ.F D (.lst us), Γ.T⟩ S2 H2 e2 R2 i
  by_cases hi : i < xs.length
  · have ed : xs.drop i = xs[i] :: xs.drop (i + 1) := List.drop_eq_getElem_cons hi
    rw [ed] at w2
    obtain ⟨go, yl⟩ := it2 xs[i] (by simp [hi])
    refine .inr ⟨go, fun H' => ∃ A' G' S' ys us, Ext Γ ⟨A', G', Γ.F, Γ.T⟩ ∧ Rs X.K ⟨A', G', upd Γ.F D (.lst us), Γ.T⟩ S' H' ∧ RVs X.K ⟨A', G', Γ.F, Γ.T⟩ ys us ∧ lcGo t mt me (wipeD δ vs) (xs.drop (i + 1)) ys S' Qd, fun H' h => ⟨xs.length - (i + 1), by omega, rfl, h⟩, fun v H3 y => ?_⟩
    obtain ⟨⟨A3, G3, F3, T3⟩, e3, R3, r3⟩ := yl v H3 y
    obtain rfl : F3 = upd Γ.F D (.lst us) := e3.eqF
    obtain rfl : T3 = Γ.T := e3.eqT
    have w2' : (match bindT t xs[i] (wipeD δ vs) with
      | some δ1 => mt δ1 S2 (fun b S1 => match b with
        | true => me δ1 S1 (fun y S2 => ys.length < 16777216 ∧ lcGo t mt me (wipeD δ vs) (xs.drop (i + 1)) (ys ++ [y]) S2 Qd) noE
        | false => lcGo t mt me (wipeD δ vs) (xs.drop (i + 1)) ys S1 Qd) noE
      | none => False) := w2
    cases hb : bindT t xs[i] (wipeD δ vs) with
    | none =>
      rw [hb] at w2'
      exact w2'.elim
    | some δ1 =>
      rw [hb] at w2'
      have e23 : Ext Γ ⟨A3, G3, Γ.F, Γ.T⟩ := e2.trans ⟨e3.pre, e3.sub, rfl, rfl⟩
      have cw : Cf X.K ⟨A3, G3, upd Γ.F D (.lst us), Γ.T⟩ S2 H3 (wipeD δ vs) (L2.wipe σ vs) := by
        have h := c1.wipe vs
        exact ⟨R3, h.len, fun j d ej => by
          obtain ⟨z, h1, h2⟩ := h.ls j d ej
          exact ⟨z, h1, RV.mono e23 d z h2⟩⟩
      refine tgV_run t xs[i] v (wipeD δ vs) δ1 (L2.wipe σ vs) _ cw r3 hb fun σ' c' a => ?_
      have ww : L2.wipe σ' vs = L2.wipe (L2.wipe σ vs) vs := wipe_agree ⟨a.1, fun j hj => a.2 j fun z => hj (hn j z)⟩
      have w1 : L2.wipe (L2.wipe σ vs) vs = L2.wipe σ vs := wipe_agree ⟨wipe_length σ vs, fun j hj => wipe_out hj⟩
      refine ⟨ww.trans w1, ⟨_, S2, δ1, _, noE, c', w2', fun ⟨A4, G4, F4, T4⟩ S4 H4 d4 v4 e4 R4 r4 q4 => ?_, fun _ _ _ _ _ _ _ _ _ z => z.elim⟩⟩
      obtain rfl : F4 = upd Γ.F D (.lst us) := e4.eqF
      obtain rfl : T4 = Γ.T := e4.eqT
      have e24 : Ext Γ ⟨A4, G4, Γ.F, Γ.T⟩ := e23.trans ⟨e4.pre, e4.sub, rfl, rfl⟩
      have r24 : RVs X.K ⟨A4, G4, Γ.F, Γ.T⟩ ys us := RVs.mono (Γ := ⟨A2, G2, Γ.F, Γ.T⟩) (Γ' := ⟨A4, G4, Γ.F, Γ.T⟩) ((Ext.mk e3.pre e3.sub rfl rfl : Ext ⟨A2, G2, Γ.F, Γ.T⟩ ⟨A3, G3, Γ.F, Γ.T⟩).trans ⟨e4.pre, e4.sub, rfl, rfl⟩) _ _ r2
      cases (show d4 = v4 from r4)
      cases d4 with
      | true =>
        rw [if_pos rfl]
        refine ⟨_, S4, δ1, _, noE, c'.mk' R4 e4, q4, fun ⟨A5, G5, F5, T5⟩ S5 H5 d5 v5 e5 R5 r5 q5 => ?_, fun _ _ _ _ _ _ _ _ _ z => z.elim⟩
        obtain rfl : F5 = upd Γ.F D (.lst us) := e5.eqF
        obtain rfl : T5 = Γ.T := e5.eqT
        have hD5 : H5 D = some (.lst us) := R5.fsub D _ upd_same
        have r25 : RVs X.K ⟨A5, G5, Γ.F, Γ.T⟩ ys us := RVs.mono (Γ := ⟨A4, G4, Γ.F, Γ.T⟩) (Γ' := ⟨A5, G5, Γ.F, Γ.T⟩) ⟨e5.pre, e5.sub, rfl, rfl⟩ _ _ r24
        have R6 := R5.held (p := D) (o0 := .lst us) upd_same (.lst (us ++ [v5]))
        have eu : upd (upd Γ.F D (.lst us)) D (HO.lst (us ++ [v5])) = upd Γ.F D (.lst (us ++ [v5])) := upd_upd
        refine ⟨us, hD5, by rw [← r25.length]; exact Nat.lt_of_lt_of_le q5.1 (Nat.le_of_eq sizeLine_eq.symm), A5, G5, S5, ys ++ [d5], us ++ [v5], e24.trans ⟨e5.pre, e5.sub, rfl, rfl⟩, ?_, r25.snoc r5, q5.2⟩
        rw [← eu]
        exact R6
      | false =>
        rw [if_neg Bool.false_ne_true]
        exact ⟨A4, G4, S4, ys, us, e24, R4, r24, q4⟩
  · have hd : xs.drop i = [] := List.drop_eq_nil_of_le (by omega)
    rw [hd] at w2
    exact .inl ⟨it1 (by omega), fin A2 G2 S2 H2 D ys us e2 hD hF R2 r2 w2⟩
variable (hc : X.calm = true) (hN : X.N.Nodup) (hi : DI X W tg iter mi) (ok : BlkOk X.N X.env.scope scope own) (hn : ∀ i ∈ namesT t, i ∈ own.map (·.2))
  (hg : ∀ (s : Shared) (H : Hp) (C : Addr) (cl : List (Str × Addr)) (fp : List Addr), DTg (X.blk s H scope (compEnvC scope cl C X.env) fp) tg t)
  (ht : ∀ (s : Shared) (H : Hp) (C : Addr) (cl : List (Str × Addr)) (fp : List Addr), DTs (X.blk s H scope (compEnvC scope cl C X.env) fp) noW ifs mt)
  (he : ∀ (s : Shared) (H : Hp) (C : Addr) (cl : List (Str × Addr)) (fp : List Addr), DE (X.blk s H scope (compEnvC scope cl C X.env) fp) noW elt me)
include hc hN hi ok hn hg ht he
theorem d_lc (hs : ∀ x, foldedSetIterable iter X.env x = pure x := by intro _; rfl) : DE X W (.ListComp elt [⟨tg, iter, ifs, 0⟩] scope pos) (mLc mi t mt me (own.map (·.2))) :=
  PE.imp (pe_lc (wi := tID X.K W mi) (g := tgV X.K t) (tt := tG relB X.K noW mt) (te := tG (RV X.K) X.K noW me) hc hN hi ok hg ht he hs) fun σ H Q ⟨Γ, S, δ, Qd, Ed, c, m, kq, ke⟩ => ⟨Γ, S, δ, _, Ed, c, m, fun Γ1 S1 H1 xs J e1 R1 it q1 =>
    lc_run (own.map (·.2)) hn (c.mk' R1 e1) it q1 fun A2 G2 S2 H2 D ys us e2 hD hF R2 r2 q2 => by
      have R3 := R2.give rfl hF
      have e3 : Ext Γ1 ⟨A2, upd G2 D (.lst us), Γ1.F, Γ1.T⟩ := e2.trans ⟨⟨[], by simp⟩, fun a u ea => by
        show upd G2 D (.lst us) a = some u
        have hne : a ≠ D := fun z => by
          subst z
          rw [R2.fdis a _ upd_same] at ea
          cases ea
        rw [upd_ne hne]
        exact ea, rfl, rfl⟩
      exact kq _ S2 H2 (.lst ys) (.ref D) (e1.trans e3) R3 ⟨D, us, rfl, upd_same, RVs.mono (Γ := ⟨A2, G2, Γ1.F, Γ1.T⟩) (Γ' := ⟨A2, upd G2 D (.lst us), Γ1.F, Γ1.T⟩) ⟨⟨[], by simp⟩, fun a u ea => by
        show upd G2 D (.lst us) a = some u
        have hne : a ≠ D := fun z => by
          subst z
          rw [R2.fdis a _ upd_same] at ea
          cases ea
        rw [upd_ne hne]
        exact ea, rfl, rfl⟩ _ _ r2⟩ q2, ke⟩
theorem d_lcO (hs : ∀ x, foldedSetIterable iter X.env x = pure x := by intro _; rfl) : DE X W (.ListComp elt [⟨tg, iter, ifs, 0⟩] scope pos) (mLcO mi t mt me (own.map (·.2))) :=
  PE.imp (pe_lc (wi := tID X.K W mi) (g := tgV X.K t) (tt := tG relB X.K noW mt) (te := tG (RV X.K) X.K noW me) hc hN hi ok hg ht he hs) fun σ H Q ⟨Γ, S, δ, Qd, Ed, c, m, kq, ke⟩ => ⟨Γ, S, δ, _, Ed, c, m, fun Γ1 S1 H1 xs J e1 R1 it q1 =>
    lc_run (own.map (·.2)) hn (c.mk' R1 e1) it q1 fun A2 G2 S2 H2 D ys us e2 hD hF R2 r2 q2 => by
      have R3 := R2.givePush rfl hF (d := .lst ys) ⟨us, rfl, r2⟩
      refine kq ⟨A2 ++ [D], G2, Γ1.F, Γ1.T⟩ (S2 ++ [some (.lst ys)]) H2 (.ref S2.length) (.ref D) (e1.trans (e2.trans ⟨⟨[D], rfl⟩, fun _ _ z => z, rfl, rfl⟩)) R3 ⟨D, ?_, rfl⟩ q2
      show (A2 ++ [D])[S2.length]? = some D
      have hl : A2.length = S2.length := R2.len
      rw [← hl]
      simp, ke⟩
end
end DL
/-! D layer, part 7: defs over data, their calls. -/
namespace DL
open PySem PySem.Spec PyProof.Rows L2

/-- what a body's context brings along -/
structure XC (X : Cx) (k : Nat) (gd : Bool) : Prop where
  room : Room k X.A
  guards : gd = true → X.A.guards = some []
  calm : X.calm = true
  pass : PassesOwn (model X.prog X.w) X.A X.env X.xe
theorem XC.hu {X : Cx} {k : Nat} {gd : Bool} (c : XC X k gd) : X.A.units + 64 < cLine := c.room.units
theorem XC.blk {X : Cx} {k : Nat} {gd : Bool} (c : XC X k gd) (s : Shared) (H : Hp) (scope : Scope) (cenv : Env) (fp : List Addr) : XC (X.blk s H scope cenv fp) k gd := ⟨c.room, c.guards, c.calm, PassesOwn.never⟩
theorem XC.mono {X : Cx} {j k : Nat} {gd : Bool} (c : XC X k gd) (h : j ≤ k) : XC X j gd := ⟨c.room.mono h, c.guards, c.calm, c.pass⟩
abbrev GX := List DV → Store → MK DV → MX → Prop
/-- a def's promise: called where no text of a value is being made -/
structure FnG (gd : Bool) (P : Program) (w : World) (K : PySem.W.Frag) (mg : Str → Option Value) (base : Heap) (cx : CXT) (k : Nat) (f : Addr) (fd : FuncData) (ps : List Str) (sp : Sp) : Prop where
  len : ∀ vs H Q E, sp vs H Q E → vs.length = ps.length
  run : ∀ (A : Around) (outer : List Env) (s : Shared) (H : Hp) (args : Args) (us : List Value) (vs : List V) (Q : VK) (E : XK), (gd = true → A.guards = some []) → Room k A → Env0 P w K mg base A outer s H → BindsTo s fd args (ps.zip us) → Vals vs us → sp vs H Q E →
    codeAny (model P w) A (.call (.ref f) args) (CR cx outer P w H s Q E) s
/-- behind an exception -/
def KX (K : PySem.W.Frag) (Γ : AG) (Ed : MX) (E : XK) : Prop := ∀ Γ' S' H' x c dd, Ext Γ Γ' → Rs K Γ' S' H' → RX K Γ' x c dd → Ed x S' → E c dd H'
/-- the promise of a def of n parameters that does m -/
def spD (K : PySem.W.Frag) (n : Nat) (m : GX) : Sp := fun vs H Q E => ∃ Γ S ds Qd Ed, ds.length = n ∧ Rs K Γ S H ∧ RVs K Γ ds vs ∧ m ds S Qd Ed ∧ KQ (RV K) K Γ Qd Q ∧ KX K Γ Ed E
def startD (n : Nat) (ds : List DV) : DEnv := ds.map some ++ List.replicate (n - ds.length) none
/-- what a body does, n its names -/
def mBody (n : Nat) (b : MS) : GX := fun ds S Q E => b { nx := fun _ S' => Q .non S', rt := Q, bk := fun _ _ => False, ct := fun _ _ => False, ex := fun x _ S' => E x S' } (startD n ds) S
section
variable {P : Program} {w : World} {K : PySem.W.Frag} {mg : Str → Option Value} {base : Heap} {x qual : Str} {params : Arguments} {body : List Stmt} {scope : Scope} {dvs : List V} {kws : List (Str × V)} {f : Addr} {fd : FuncData} {cx : CXT} {N ps : List Str} {k : Nat} {gd : Bool}
theorem start_cf {Γ : AG} {S : Store} {H : Hp} {ds : List DV} {vs : List V} (R : Rs K Γ S H) (r : RVs K Γ ds vs) : Cf K Γ S H (startD N.length ds) (L2.start N vs) := by
  have hl := r.length
  refine ⟨R, ?_, fun i d e => ?_⟩
  · unfold startD L2.start
    rw [List.length_append, List.length_append, List.length_map, List.length_map, List.length_replicate, List.length_replicate, hl]
  · unfold startD at e
    unfold L2.start
    by_cases hi : i < ds.length
    · rw [List.getElem?_append_left (by simpa using hi), List.getElem?_map] at e
      cases e2 : ds[i]? with
      | none =>
        rw [e2] at e
        cases e
      | some d2 =>
        rw [e2] at e
        cases e
        obtain ⟨v, h1, h2⟩ := r.get e2
        exact ⟨v, by rw [List.getElem?_append_left (by rw [List.length_map, ← hl]; exact hi), List.getElem?_map, h1]; rfl, h2⟩
    · rw [List.getElem?_append_right (by simpa using hi), List.getElem?_replicate] at e
      split at e <;> cases e
theorem fnG_of {b : MS} (F : FunD K x qual params body scope dvs kws f fd) (sc : FnScope N ps scope)
    (hb : ∀ (cdv : Value) (A : Around) (outer : List Env) (s : Shared) (H : Hp) (E : XK), XC (cxOf cx P w K mg base N qual scope f cdv A outer s H E) k gd → (cx = L2N.CX P w → L2N.Takes (cxOf cx P w K mg base N qual scope f cdv A outer s H E) (fun c d _ H' => E c d H')) →
      DB (cxOf cx P w K mg base N qual scope f cdv A outer s H E) (fun c d _ H' => E c d H') body b) : FnG gd P w K mg base cx (k + 1) f fd ps (spD K ps.length (mBody N.length b)) := by
  obtain ⟨oc, od, dV, kV, doc, pm, an, cdv, ct, osl, rfl, lk, hcd, _, _⟩ := F.ex
  refine ⟨fun vs H Q E ⟨Γ, S, ds, Qd, Ed, hl, R, r, _⟩ => by rw [← hl, r.length], fun A outer s H args us vs Q E hgd hr e0 hbt r0 hsp => ?_⟩
  obtain ⟨Γ, S, ds, Qd, Ed, hl, R, r, hm, kq, kx⟩ := hsp
  have hlv : vs.length = ps.length := by rw [← r.length, hl]
  have inK : K.In s.heap := e0.mod.kin.keeps fun a o e => (e0.bs a o e).1
  have noL : s.heap.NoLimit := e0.mod.nolimit.keeps fun a o e => (e0.bs a o e).1
  have kinds : ∀ y ∈ ps.zip us, scope.names.lookup y.1 = some .local ∨ (scope.names.lookup y.1 = some .cell ∧ ((cellsFrom (s.heap.objs.size + 1) scope.names []).lookup y.1).isSome = true) := fun ⟨n, v⟩ hy =>
    (sc.par n (List.of_mem_zip hy).1).elim (fun q => .inl q) fun q => .inr ⟨q, PySem.W.cellsFrom_some _ _ _ (.inl q)⟩
  refine codeAny_call_function hr.depth (inK _ _ lk) rfl sc.co sc.gen rfl (PySem.W.codeRec_of inK hcd) (hbt _ _ _ _ ?_)
  refine wpAny_newFunctionEnv_cells sc.kind kinds fun env he s1 y => ?_
  subst he
  refine ⟨noL.keeps y.toInCall.keep, codeAny_func ?_⟩
  have I0 : Inv (cxOf cx P w K mg base N qual scope f cdv A outer s H E) [] (L2.start N vs) H s1 := inv_start sc hr.hd e0 hlv r0 y
  have hx : XC (cxOf cx P w K mg base N qual scope f cdv A outer s H E) k gd := ⟨hr.deeper _, hgd, rfl, passes_of rfl⟩
  have D0 : DB (cxOf cx P w K mg base N qual scope f cdv A outer s H E) (fun c d _ H' => E c d H') body b := hb cdv A outer s H E hx (fun e => by
    subst e
    exact L2N.takes_of rfl rfl rfl rfl)
  have hrun : tSD K (fun c d _ H' => E c d H') b { nx := fun _ H' => Q .non H', rt := Q } (L2.start N vs) H :=
    ⟨Γ, S, startD N.length ds, _, start_cf R r, hm, ⟨fun Γ' S' H' δ' σ' e c q => kq Γ' S' H' .non .non e c.rs rfl q, fun Γ' S' H' d v e R' rv q => kq Γ' S' H' d v e R' rv q, fun _ _ _ _ _ _ _ q => q, fun _ _ _ _ _ _ _ q => q, fun Γ' S' H' δ' σ' xx c dd e c' rx q => kx Γ' S' H' xx c dd e c'.rs rx q⟩⟩
  refine wpAny_mono (D0.run [] s1 (L2.start N vs) H _ I0 hrun) (fun fl s' hs => ?_) fun e s' hs => hs
  have done : ∀ {σ' : L2.St} {H' : Hp} {v : V} {u : Value}, Inv (cxOf cx P w K mg base N qual scope f cdv A outer s H E) [] σ' H' s' → RelV v u → Q v H' → CE outer P w H s Q u s' :=
    fun {σ' H' v u} J rv q => ⟨v, H', J.os, J.bare, J.base, J.hok, rv, q⟩
  match fl, hs with
  | .ret u, hs =>
    obtain ⟨v, σ', H', J, rv, q⟩ := hs
    exact done J rv q
  | .next, hs =>
    obtain ⟨σ', H', J, q⟩ := hs
    exact done (v := V.non) (u := Value.none) J rfl q
  | .brk, hs =>
    obtain ⟨_, _, _, q⟩ := hs
    exact q.elim
  | .cont, hs =>
    obtain ⟨_, _, _, q⟩ := hs
    exact q.elim
end
/-! ### calls -/
/-- a def of the module's, by its name, of all its parameters -/
structure Cal (gd : Bool) (P : Program) (w : World) (K : PySem.W.Frag) (mg : Str → Option Value) (base : Heap) (cx : CXT) (k : Nat) (x : Str) (n : Nat) (m : GX) : Prop where
  ex : ∃ f fd ps, mg x = some (.ref f) ∧ PySem.W.keepIn K (.ref f) = true ∧ Binds K fd ps [] ∧ ps.length = n ∧ FnG gd P w K mg base cx k f fd ps (spD K n m)
def mCallF (n : Nat) (m : GX) (as : MA) : ME := fun δ S Q E => as δ S (fun ds S1 => ds.length = n ∧ m ds S1 Q E) E
section
variable {X : Cx} {W : WX} {cx : CXT} {k j n : Nat} {m : GX} {x : Str} {p pos : Pos} {e : Expr} {es : List Expr} {mas : MA} {f : Addr} {fd : FuncData} {ps : List Str} {sp : Sp} {E : XK} {gd gd' : Bool}
theorem run_fnG {pins : List (Addr × Obj)} {σ : L2.St} {H : Hp} {s : Shared} {Q : VK} {us : List Value} {vs : List V} (F : FnG gd X.prog X.w X.K X.mg X.base cx k f fd ps sp) (hgd : gd = true → X.A.guards = some []) (hr : Room k X.A) (hb : Binds X.K fd ps [])
    (hx : ∀ (u : Value) (s' : Shared), cx X.stack H s E u s' → X.xe u s') (I : Inv X pins σ H s) (r : Vals vs us) (h : sp vs H Q E) : wpAny (model X.prog X.w) X.A (call (.ref f) us) (EP X pins σ Q) X.xe s := by
  have hl : (us ++ []).length = ps.length := by rw [List.append_nil, ← r.length]; exact F.len _ _ _ _ h
  have hb2 := hb s us I.kIn hl
  rw [List.append_nil] at hb2
  refine wpAny_call (codeAny_mono (F.run X.A X.stack s H ⟨us, []⟩ us vs Q E hgd hr I.env0 hb2 r h) fun r' s' hq => ?_)
  match r', hq with
  | .error u, hq => exact hx u s' hq
  | .ok (.ret u), hq => exact I.after hq
  | .ok .next, hq => exact False.elim hq
  | .ok .brk, hq => exact False.elim hq
  | .ok .cont, hq => exact False.elim hq
/-- f(e, ..) that lets nothing out -/
theorem d_call (c : Cal gd' X.prog X.w X.K X.mg X.base CX0 k x n m) (hc : XC X j gd) (hk : k ≤ j) (hg : Gl X x) (ha : DA X W (e :: es) mas) (hdb : (x == ("__debug__" : Str)) = false := by decide) (he : starEach (e :: es) X.env = (false, eval e X.env) :: starEach es X.env := by rfl)
    (hpl : (backTo pos (starEach es X.env)).any (·.1) = false := by rfl) (hgg : gd' = true → gd = true := by decide) : DE X W (.Call (.Name x p) (e :: es) [] pos) (mCallF n m mas) := by
  obtain ⟨f, fd, ps, hm, hkp, hb, hn, F⟩ := c.ex
  refine ⟨fun pins s σ H Q I h => ?_⟩
  obtain ⟨Γ, S, δ, Qd, Ed, c0, hm0, kq, ke⟩ := h
  refine wpAny_Call_Name_kw (ld_glob I hg hm ?_ hdb)
  have ht : tG (RVs X.K) X.K W mas σ H (fun vs H1 => spD X.K n m vs H1 Q (fun c d H' => W c d σ H')) :=
    ⟨Γ, S, δ, _, Ed, c0, hm0, fun Γ1 S1 H1 ds vs e1 R1 r1 q1 => ⟨Γ1, S1, ds, Qd, Ed, q1.1, R1, r1, q1.2, kq.mono e1, fun Γ2 S2 H2 xx cc dd e2 R2 rx q2 => ke Γ2 S2 H2 xx cc dd (e1.trans e2) R2 rx q2⟩, ke⟩
  refine PySem.W.callWith_K (h₀ := X.base) I.ok.mod.kin hkp (thn (ha.run pos pins s σ H _ I ht) fun us s1 ⟨vs, H1, I1, r, q⟩ => ⟨I1.kIn, ?_⟩) he hpl
  exact run_fnG F (fun h => hc.guards (hgg h)) (hc.room.mono hk) hb (fun u s' hq => hq.elim) I1 r q
end
end DL
/-! D layer, part 8: enumerate, reversed, stores into lists. -/
namespace DL
open PySem PySem.Spec PyProof.Rows L2

/-- the pairs of a tuple's items and their places -/
def ItEt (K : PySem.W.Frag) (a : Addr) : It :=
  ⟨fun i H => ∃ (xs : List V) (x : V), SqT K H a xs ∧ xs[i]? = some x, fun i H v H' => ∃ T x, v = .ref T ∧ H T = none ∧ H' = upd H T (.tup [.int (i : Nat), x]) ∧ ∀ xs, SqT K H a xs → xs[i]? = some x, fun i H => ∃ xs : List V, SqT K H a xs ∧ xs.length ≤ i⟩
theorem turn_enumT {P : Program} {w : World} {K : PySem.W.Frag} {elts : List Expr} {kk : Nat} {tpos : Pos} (a e it : Addr) :
    Turn P w K (.Tuple elts kk tpos) (ItEt K a) [e, it] e (fun i h => (∃ old, IsEnum h e it ((i : Nat) : Int) old) ∧ h.IsTupleIter it a i ∧ e ≠ it) where
  mem := by simp
  obj := fun i h st b hb => by
    obtain ⟨⟨old, he⟩, ⟨o, ho, hc, hd⟩, _⟩ := st
    have e' : b = e ∨ b = it := by simpa using hb
    rcases e' with z | z
    · rw [z]; exact ⟨_, he, fun v q => nomatch q⟩
    · rw [z]; exact ⟨o, ho, fun v q => by rw [hd] at q; cases q⟩
  keep := fun i h h' st k => let ⟨⟨old, he⟩, hi, hne⟩ := st; ⟨⟨old, k e (by simp) _ he⟩, hi.at fun o q => k it (by simp) o q, hne⟩
  item := by
    intro X hP hw hK hc i pins s σ H E I hf st hg
    subst hP hw hK
    obtain ⟨⟨old, he⟩, hit, hne⟩ := st
    obtain ⟨xs, x, hq, hx⟩ := hg
    obtain ⟨its, rv, p, hz⟩ := I.tuple hq
    obtain ⟨u, hu, ru⟩ := rv.get hx
    have hel : e < s.heap.objs.size := Heap.lt_size he
    have hil : it < s.heap.objs.size := by obtain ⟨_, q, _⟩ := hit; exact Heap.lt_size q
    have ht : s.heap.IsTuple a its.toArray := p
    have hai : a ≠ it := fun z => by
      subst z
      obtain ⟨o1, e1, c1, _⟩ := hit
      obtain ⟨o2, e2, c2, _⟩ := p
      rw [e1] at e2
      cases e2
      rw [c1] at c2
      exact absurd c2 (by decide)
    have hae : e ≠ a := fun z => by
      subst z
      obtain ⟨o2, e2, c2, _⟩ := p
      have e1 : s.heap.get? e = _ := he
      rw [e1] at e2
      cases e2
      have c3 : Value.type "enumerate" = Value.type "tuple" := c2
      exact absurd c3 (by decide)
    have hlt : i < its.toArray.size := by
      have := (List.getElem?_eq_some_iff.mp hu).1
      simpa using this
    refine wpAny_pyNext_enum_itemD (Draws.tuple (A := X.A.in1) (I.ok.hd hc) it a hai its.toArray) he ⟨hit, ht⟩ hlt hne (by simp [hae, hne]) fun y h' tk hy ho st' hT hsz hk => ?_
    obtain ⟨hit', ht'⟩ := st'
    have eyu : y = u := by
      have h1 : its.toArray[i]? = some y := hy
      have h2 : its.toArray[i]? = some u := by simpa using hu
      rw [h1] at h2
      exact Option.some.inj h2
    subst eyu
    refine ⟨_, rfl, wpAny_letOwnedTupleGo_enum (s := { s with heap := h', toks := tk + 1 }) ho fun h'' he' sb => ?_⟩
    have hT2 : h''.get? s.heap.objs.size = some { cls := .type "tuple", data := .seq #[.int i tk, y] } := (sb.2 _ (Nat.ne_of_gt hel)).trans hT
    have new : ObjOk X.prog X.w (upd H s.heap.objs.size (.tup [.int (i : Nat), x])) h'' s.heap.objs.size (.tup [.int (i : Nat), x]) :=
      ⟨by show 2 ≤ sizeLine; decide, [.int i tk, y], .cons ⟨_, rfl⟩ (.cons ru .nil), ⟨_, hT2, rfl, _, rfl⟩⟩
    have I1 : Inv X pins σ (upd H s.heap.objs.size (.tup [.int (i : Nat), x])) { s with heap := h'', toks := tk + 1 } :=
      I.turnedNew (ch := [e, it]) (fun b ob hb q => (sb.2 b (fun z => hb (by simp [z]))).trans (hk b ob (fun z => hb (by simp [z])) (fun z => hb (by simp [z])) q)) hf (Nat.le_refl _) new
    refine ⟨.ref s.heap.objs.size, _, I1, rfl, ⟨_, x, rfl, I.hok.fresh (Nat.le_refl _), rfl, fun ys hy => by rw [I.tuple_inj hy hq]; exact hx⟩, ⟨⟨y, ?_⟩, hit'.at fun o q => (sb.2 it (Ne.symm hne)).trans q, hne⟩, fun b hb => ?_⟩
    · have e1 : ((i + 1 : Nat) : Int) = (i : Int) + 1 := by omega
      rw [e1]; exact he'
    · have hb' : b < s.heap.objs.size := by
        have e' : b = e ∨ b = it := by simpa using hb
        rcases e' with z | z
        · rw [z]; exact hel
        · rw [z]; exact hil
      rw [upd_ne (Nat.ne_of_lt hb')]
      exact (hf b hb).1
  done := by
    intro X hP hw hK hc i pins s σ H E I hf st hg
    subst hP hw hK
    obtain ⟨⟨old, he⟩, hit, hne⟩ := st
    obtain ⟨xs, hq, hx⟩ := hg
    obtain ⟨its, rv, p, hz⟩ := I.tuple hq
    obtain ⟨f0, f1, f2, f3, f4, f5⟩ := hf it (by simp)
    have hl := rv.length
    have ht : s.heap.IsTuple a its.toArray := p
    unfold pyNext
    have hT : s.TypeIs (.ref e) "enumerate" := ⟨_, he, rfl⟩
    refine wpAny_bind (wpAny_attempt (wpAny_callSpecial?_slot (name := Str.ofString "__next__") hT F.slot_enumerate_next
      (wpAny_call_entry F.slot_enumerate_next hT F.entry_enumerate_next ?_ (F.args_enumerate_next_1 _))))
    show wpAny _ _ (field (.ref e) 2 >>= _) _ _ _
    refine wpAny_bind (wpAny_field he rfl (x := .ref it) rfl ?_)
    refine wpAny_bind (wpAny_nextOf_tuple_end (A := X.A.in1) (I.ok.hd hc) hit ht (by simp; omega) fun h' x he' hx' => ?_)
    obtain ⟨o, ho, hc'⟩ := hx'
    refine wpAny_bind (wpAny_isInstance (T := "StopIteration") (b := true) ⟨o, ho, hc'⟩ isSubtype_stop ?_)
    exact wpAny_pure ⟨rfl, I.turned (t' := s.toks) (fun b o hb q => he' b o hb q) f0 f1 f3 f4 f5⟩
  self := fun A i s Q E st h => let ⟨⟨_, he⟩, _⟩ := st; wpAny_pyIter_enum he h
theorem meets_enumerate_newT {v : Value} {o : Obj} {H : Heap → Prop} (B : Begins v o H) :
    Meets (Builtin.«enumerate.__new__» ⟨[.type "enumerate", v], []⟩) (fun _ R s => H s.heap ∧
      R (.ok (.ret (.ref (s.heap.push o).objs.size))) { s with heap := (s.heap.push o).push { cls := .type "enumerate", data := .fields #[.none, .bool false, .ref s.heap.objs.size, rawInt 0, .none, .none] } }) :=
  .of_wp fun prog w A R s h => by
    obtain ⟨hp, g, d, tk, os⟩ := s; obtain ⟨h1, h⟩ := h
    have hsub := sub_enumerate
    have q1 : ∀ {A' : Around} {E : Value → Shared → Prop} {Q : Value → Shared → Prop}, Q (.ref hp.objs.size) ⟨hp.push o, g, d, tk, os⟩ → wpAny (model prog w) A' (pyIter v) Q E ⟨hp, g, d, tk, os⟩ :=
      fun q => B.iter prog w _ _ ⟨hp, g, d, tk, os⟩ _ h1 q
    wp_walk using q1
    refine wpAny_stack_any fun st => wpAny_pure ?_
    split
    · rename_i c _ _ _ _ _
      cases (c == Value.type "enumerate")
      · wp_walk using q1
        exact ⟨_, rfl, h⟩
      · wp_walk using q1
        exact ⟨_, rfl, h⟩
    · wp_walk using q1
      exact ⟨_, rfl, h⟩
section
variable {prog : Program} {w : World} {A : Around} {E : Value → Shared → Prop} {s : Shared}
theorem enum_beginsT {v : Value} {o : Obj} {H : Heap → Prop} {Q : Value → Shared → Prop} (B : Begins v o H) (h1 : H s.heap)
    (h : ∀ h', IsEnum h' (s.heap.objs.size + 1) s.heap.objs.size 0 .none → h'.get? s.heap.objs.size = some o → h'.objs.size = s.heap.objs.size + 2 →
      (∀ b o, s.heap.get? b = some o → h'.get? b = some o) → Q (.ref (s.heap.objs.size + 1)) { s with heap := h' }) :
    wpAny (model prog w) A (call (.type "enumerate") [v]) Q E s := by
  refine callType_new F.called_enumerate (by decide) (F.typeCall_enumerate_1 _) (F.newCall_enumerate_1 _) (fun obj => F.args_object_init_2 obj _) F.entry_enumerate_new
    (meets_enumerate_newT B) ⟨h1, ?_⟩
  have hz : (s.heap.push o).objs.size = s.heap.objs.size + 1 := Heap.size_push ..
  show _ ∧ _
  rw [hz]
  have he : IsEnum ((s.heap.push o).push { cls := .type "enumerate", data := .fields #[.none, .bool false, .ref s.heap.objs.size, rawInt 0, .none, .none] }) (s.heap.objs.size + 1) s.heap.objs.size 0 .none := by
    have := Heap.get?_push_size (s.heap.push o) (o := { cls := .type "enumerate", data := .fields #[.none, .bool false, .ref s.heap.objs.size, rawInt 0, .none, .none] }) rfl
    rw [hz] at this; exact this
  refine ⟨⟨_, he, rfl⟩, h _ he (Heap.get?_push_of_some _ (Heap.get?_push_size _ B.free)) (by rw [Heap.size_push, hz]) fun b o x => Heap.get?_push_of_some _ (Heap.get?_push_of_some _ x)⟩
end
def iEnumA (K : PySem.W.Frag) (ta : TA) : TI := fun σ H R => ta σ H fun vs H1 => ∃ a xs, vs = [.ref a] ∧ ((SqL K H1 a xs ∧ R (Ite K a) H1) ∨ (SqT K H1 a xs ∧ R (ItEt K a) H1))
theorem pi_enumA {X : Cx} {e : Expr} {ta : TA} {p pos tpos : Pos} {elts : List Expr} {kk : Nat} (hg : Gl X "enumerate") (hm : X.mg "enumerate" = none) (ha : PA X [e] ta) (hs : starEach [e] X.env = [(false, eval e X.env)] := by rfl) :
    PI X (.Tuple elts kk tpos) (.Call (.Name "enumerate" p) [e] [] pos) (iEnumA X.K ta) := by
  refine ⟨fun pins s σ H R I h => ?_⟩
  refine Call_ (ld_blt I hg hm boot_enumerate (PyProof.Rows.callWith_type1 (thn (ha.run pos pins s σ H _ I h) fun us s1 ⟨vs, H1, I1, r1, q1⟩ => ?_) hs rfl))
  obtain ⟨a, xs, ex, q⟩ := q1
  subst ex
  cases r1 with
  | cons r rr =>
    cases rr
    cases r
    have fpk : ∀ b, b ∈ [s1.heap.objs.size + 1, s1.heap.objs.size] → s1.heap.objs.size ≤ b := fun b hb => by
      have e' : b = s1.heap.objs.size + 1 ∨ b = s1.heap.objs.size := by simpa using hb
      rcases e' with z | z
      · rw [z]; exact Nat.le_add_right _ _
      · rw [z]; exact Nat.le_refl _
    rcases q with ⟨hq, q⟩ | ⟨hq, q⟩
    · obtain ⟨its, rv, p', hz⟩ := I1.list hq
      refine call_enumerate_list p'.isList fun h' he hit hsz hk => wpAny_pyIter_enum he ?_
      have I2 : Inv X pins σ H1 { s1 with heap := h' } := I1.kept (t' := s1.toks) hk
      exact ⟨s1.heap.objs.size + 1, [s1.heap.objs.size + 1, s1.heap.objs.size], _, _, H1, rfl, I2, turn_enum a (s1.heap.objs.size + 1) s1.heap.objs.size, ⟨⟨.none, he⟩, hit, Nat.succ_ne_self _⟩, fun b hb => I1.fpOk (fpk b hb) (I1.hok.fresh (fpk b hb)), q⟩
    · obtain ⟨its, rv, p', hz⟩ := I1.tuple hq
      refine enum_beginsT (begins_tuple a its.toArray) p' fun h' he hit hsz hk => wpAny_pyIter_enum he ?_
      have I2 : Inv X pins σ H1 { s1 with heap := h' } := I1.kept (t' := s1.toks) hk
      exact ⟨s1.heap.objs.size + 1, [s1.heap.objs.size + 1, s1.heap.objs.size], _, _, H1, rfl, I2, turn_enumT a (s1.heap.objs.size + 1) s1.heap.objs.size, ⟨⟨.none, he⟩, ⟨_, hit, rfl, rfl⟩, Nat.succ_ne_self _⟩, fun b hb => I1.fpOk (fpk b hb) (I1.hok.fresh (fpk b hb)), q⟩
theorem itd_enumT {K : PySem.W.Frag} {Γ : AG} {p : Addr} {vs : List V} {ds : List DV} (h1 : SqT K Γ.G p vs) (h2 : RVs K Γ ds vs) : ItD K Γ (ItEt K p) (enum 0 ds) := fun Γ' S' H' E R i => by
  have hq : SqT K H' p vs := sqT_sub R.sub (sqT_sub E.sub h1)
  refine ⟨fun hi => ⟨vs, hq, by rw [enum_len] at hi; rw [← h2.length]; exact hi⟩, fun d e => ?_⟩
  obtain ⟨x, ex, rfl⟩ := enum_get 0 ds i d e
  obtain ⟨v, k1, k2⟩ := h2.get ex
  refine ⟨⟨vs, v, hq, k1⟩, fun z H'' yl => ?_⟩
  obtain ⟨T, x', rfl, hT, rfl, y1⟩ := yl
  have e1 := y1 vs hq
  rw [k1] at e1
  cases e1
  refine itd_pair R hT ?_ (RV.mono E _ _ k2)
  show V.int ((i : Nat) : Int) = V.int ((0 + i : Nat) : Int)
  rw [Nat.zero_add]
theorem inv_enum {ds : List DV} {P : List DV → Prop} (h : (match ds with
  | [.tup xs] => P xs
  | [.lst xs] => P xs
  | _ => False)) : ∃ xs, (ds = [.tup xs] ∨ ds = [.lst xs]) ∧ P xs := by
  cases ds with
  | nil => exact h.elim
  | cons d r =>
    cases r with
    | nil => cases d <;> first | exact ⟨_, .inl rfl, h⟩ | exact ⟨_, .inr rfl, h⟩ | exact False.elim h
    | cons d2 r => cases d <;> exact False.elim h
/-! ### reversed -/
section
variable {prog : Program} {w : World} {A : Around} {E : Value → Shared → Prop} {s : Shared}
end
section
variable {X : Cx} {W : WX} {e tg iter : Expr} {me : ME} {mas : MA} {pos p tpos : Pos} {elts : List Expr} {kk : Nat}
/-! ### o[i] = v -/
/-- the store of a list's item -/
def gSetL (a i : ME) : MG := fun d δ S Q => a δ S (fun o S1 => i δ S1 (fun k S2 => match o, k with
  | .ref p, .int j => (match S2[p]? with
    | some (some (.lst ds)) => (match ixN ds.length j with
      | some n => Q δ (S2.set p (some (.lst (ds.set n d))))
      | none => False)
    | _ => False)
  | _, _ => False) noE) noE
theorem RVs.set {K : PySem.W.Frag} {Γ : AG} : ∀ {ds : List DV} {vs : List V} {d : DV} {v : V} (n : Nat), RVs K Γ ds vs → RV K Γ d v → RVs K Γ (ds.set n d) (vs.set n v)
  | [], vs, d, v, n, r, h => by cases (show vs = [] from r); exact (rfl : ([] : List V) = [])
  | x :: ds, vs, d, v, 0, r, h => by
    obtain ⟨u, us, rfl, h1, h2⟩ := r
    exact ⟨v, us, rfl, h, h2⟩
  | x :: ds, vs, d, v, n + 1, r, h => by
    obtain ⟨u, us, rfl, h1, h2⟩ := r
    exact ⟨u, us.set n v, rfl, h1, RVs.set n h2 h⟩
theorem dg_setL {o i : Expr} {mo mi : ME} (ho : DE X noW o mo) (hi : DE X noW i mi)
    (ha : ∀ v, assign (.Subscript o i pos) X.env v = (do
      let ov ← holding [v] (eval o X.env)
      let iv ← holding [v, ov] (eval i X.env)
      standAt pos
      holding [v, ov, iv] (setItem ov iv v)
      release [v, ov, iv] []) := by intro _; rfl) : DG X (.Subscript o i pos) (gSetL mo mi) :=
  PG.imp (pg_sub ho hi set_list ha) fun v σ H Q ⟨Γ, S, δ, d, Qd, c, r, m, k⟩ =>
    ⟨Γ, S, δ, _, noE, c, m, fun Γ1 S1 H1 d1 v1 e1 R1 r1 q1 => ⟨Γ1, S1, δ, _, noE, c.mk' R1 e1, q1, fun Γ2 S2 H2 d2 v2 e2 R2 r2 q2 => by
      cases d1 with
      | ref p =>
        cases d2 with
        | int j =>
          cases r2.int
          have q3 : (match S2[p]? with
            | some (some (.lst ds)) => (match ixN ds.length j with
              | some n => Qd δ (S2.set p (some (.lst (ds.set n d))))
              | none => False)
            | _ => False) := q2
          match es : S2[p]? with
          | some (some (.lst ds)) =>
            rw [es] at q3
            have q4 : (match ixN ds.length j with
              | some n => Qd δ (S2.set p (some (.lst (ds.set n d))))
              | none => False) := q3
            obtain ⟨a, ea, ha, ho⟩ := R2.ref (RV.mono e2 _ _ r1) es
            obtain ⟨vs, eh, rv⟩ := ho
            cases en : ixN ds.length j with
            | none =>
              rw [en] at q4
              exact q4.elim
            | some n =>
              rw [en] at q4
              refine ⟨a, vs, j, n, ea, rfl, eh, by rw [← RVs.length (Γ := Γ2) rv]; exact en, ?_⟩
              exact k Γ2 _ _ δ σ (e1.trans e2) ((c.mk' R2 (e1.trans e2)).mk' (R2.write (d := .lst (ds.set n d)) es ha ⟨_, rfl, RVs.set (Γ := Γ2) n rv (RV.mono (e1.trans e2) _ _ r)⟩) (Ext.refl _)) q4
          | some (some (.ins _ _)) => rw [es] at q3; exact q3.elim
          | some (some (.dct _)) => rw [es] at q3; exact q3.elim
          | some (some (.pp _)) => rw [es] at q3; exact q3.elim
          | some none => rw [es] at q3; exact q3.elim
          | none => rw [es] at q3; exact q3.elim
        | _ => exact False.elim q2
      | _ => exact False.elim q2, fun _ _ _ _ _ _ _ _ _ z => z.elim⟩, fun _ _ _ _ _ _ _ _ _ z => z.elim⟩
theorem di_enum (hg : Gl X "enumerate") (hm : X.mg "enumerate" = none) (ha : DA X W [e] mas) (hs : starEach [e] X.env = [(false, eval e X.env)] := by rfl) :
    DI X W (.Tuple elts kk tpos) (.Call (.Name "enumerate" p) [e] [] pos) (iE mas) :=
  PI.imp (pi_enumA hg hm ha hs) fun σ H R ⟨Γ, S, δ, Qd, Ed, c, m, kq, ke⟩ => ⟨Γ, S, δ, _, Ed, c, m, fun Γ1 S1 H1 ds vs e1 R1 r1 q1 => by
    obtain ⟨xs, rfl | rfl, q1⟩ := inv_enum q1
    · obtain ⟨v, rfl, ⟨a, as, rfl, h1, h2⟩⟩ := r1.one
      exact ⟨a, as, rfl, .inr ⟨sqT_sub R1.sub (.of h1), kq Γ1 S1 H1 _ _ e1 R1 (itd_enumT (.of h1) h2) q1⟩⟩
    · obtain ⟨v, rfl, ⟨a, as, rfl, h1, h2⟩⟩ := r1.one
      exact ⟨a, as, rfl, .inl ⟨SqL.of (R1.sub _ _ h1), kq Γ1 S1 H1 _ _ e1 R1 (itd_enumL (SqL.of h1) h2) q1⟩⟩, ke⟩
end
end DL
/-! D layer, part 9: the law's end. -/
namespace DL
open PySem PySem.Spec PyProof.Rows L2

def intsV (ns : List Int) : List DV := ns.map DV.int
theorem rvs_ints {K : PySem.W.Frag} {Γ : AG} : ∀ ns : List Int, RVs K Γ (intsV ns) (ns.map V.int)
  | [] => (rfl : ([] : List V) = [])
  | n :: ns => ⟨.int n, ns.map V.int, rfl, rfl, rvs_ints ns⟩
/-- a law over the script: true, whatever the script holds -/
def LawG (n : Nat) (m : GX) : Prop := ∀ ns : List Int, ns.length ≤ n → (∀ z ∈ ns, Builtin.Int.intBits z ≤ 1048576) → m [.frz (intsV ns)] [] (fun d _ => d = .bl true) noE
theorem tabs_mem {K : PySem.W.Frag} {p : Addr × Str} (h : p ∈ tabs K) : ∃ c, PySem.W.codeHdIn K c p.1 = true ∧ K.lookup p.1 = none := by
  unfold tabs at h
  obtain ⟨x, hx, e⟩ := List.mem_filterMap.mp h
  split at e
  · rename_i z
    cases e
    exact ⟨_, z.1, z.2⟩
  · cases e
/-- the tables stand apart -/
def TabsB (K : PySem.W.Frag) (mg : Str → Option Value) (base : Heap) : Prop := ∀ p ∈ tabs K, base.BuiltinsAt mg p.1 ∧ mainGlobals ≠ p.1
/-- no table is written as the head ends -/
def TabsE (K : PySem.W.Frag) (h : Heap) : Prop := ∀ p ∈ tabs K, h.get? p.1 = some { cls := .none, data := .fields #[] }
def tabA (K : PySem.W.Frag) : List Addr := (tabs K).map (·.1)
/-- the law's run over a heap in which the script and the tables may be known -/
theorem law_coreD {P : Program} {w : World} {K : PySem.W.Frag} {mg mb : Str → Option Value} {CX : CXT} {k : Nat} {fa a : Addr} {fd : FuncData} {x : Str} {m : GX} {s₁ : Shared} {vs : List Value} {ns : List Int} {H : Hp}
    (KX : K.In s₁.heap) (hns : s₁.heap.Ns mainGlobals mg) (hb : s₁.heap.Ns builtinsNs mb) (hbb : ∀ x : Str, x ≠ "__name__" → mb x = bootBuiltins x) (hlim : s₁.heap.NoLimit) (hg : s₁.gens = #[])
    (hT : TabsE K s₁.heap) (hbm : ∃ (bm : Addr) (ob : Obj), mg "__builtins__" = some (.ref bm) ∧ bm ≠ builtinsNs ∧ s₁.heap.get? bm = some ob ∧ ob.cls = .type "module" ∧ ob.dict = some builtinsNs ∧ ob.data = .plain)
    (ha : s₁.heap.get? a = some { cls := .type "list", data := .seq vs.toArray }) (hr : Room k callerA)
    (F : ∀ base : Heap, K.In base → base.Ns mainGlobals mg → TabsB K mg base → FnG true P w K mg base CX k fa fd [x] (spD K 1 m)) (hbind : ∀ (s : Shared) (u : Value), BindsTo s fd ⟨[u], []⟩ [(x, u)])
    (hm : m [.frz (intsV ns)] [] (fun d _ => d = .bl true) noE) (hCX : ∀ H e s', CX [] H s₁ (fun _ _ _ => False) e s' → False)
    (hH : ∀ p ∈ tabs K, H p.1 = some (.tbl #[])) (hO : ∀ b, H b = none ∨ b ∈ tabA K ∨ ∃ o xs, H b = some (.frz o (.lst xs))) (hS : SqL K (fun b => if b ∈ tabA K then none else H b) a (ns.map V.int)) (hok : HOk P w H s₁.heap) (hA : ∀ b, H b ≠ none → b = a ∨ b ∈ tabA K) (hK : H a ≠ none → K.lookup a = none) :
    codeAny (model P w) callerA (.call (.ref fa) ⟨[.ref a], []⟩) (fun r s' => r = .ok (.ret (.bool true)) ∧ OldK s₁.heap s'.heap ∧ s'.os = s₁.os ∧ AllBare s'.gens) s₁ := by
  have isT : ∀ b : Addr, b ∈ tabA K → s₁.heap.get? b = some { cls := .none, data := .fields #[] } := fun b hb => by
    obtain ⟨p, hp, e⟩ := List.mem_map.mp hb
    rw [← e]
    exact hT p hp
  have memT : ∀ p ∈ tabs K, p.1 ∈ tabA K := fun p hp => List.mem_map.mpr ⟨p, hp, rfl⟩
  have keepB : ∀ {b : Addr} {o : Obj}, s₁.heap.get? b = some o → H b = none → (hidT s₁.heap H).get? b = some o := fun e n => hidT_get e n
  have noD : ∀ {b : Addr} {o : Obj}, s₁.heap.get? b = some o → (∀ vs n, o.data ≠ .seq vs n) → o.data ≠ .fields #[] → H b = none := fun {b o} e h1 h2 => by
    cases q : H b with
    | none => rfl
    | some u =>
      rcases hA b (by rw [q]; exact fun z => nomatch z) with e' | e'
      · rw [e', ha] at e
        cases e
        exact (h1 _ _ rfl).elim
      · rw [isT b e'] at e
        cases e
        exact (h2 rfl).elim
  have notA : ∀ {b : Addr} {o : Obj} {es : Array DictEntry} {ep : Nat}, s₁.heap.get? b = some o → o.data = .dict es ep → H b = none := fun {b o es ep} e d => by
    refine noD e (fun vs n z => ?_) fun z => ?_
    · rw [d] at z
      cases z
    · rw [d] at z
      cases z
  have nsB : ∀ {b : Addr} {m : Str → Option Value}, s₁.heap.Ns b m → (hidT s₁.heap H).Ns b m := fun {b m} ⟨o, es, ep, e, d, r⟩ => ⟨o, es, ep, keepB e (notA e d), d, r⟩
  have inB : K.In (hidT s₁.heap H) := fun b o e => keepB (KX b o e) (by
    cases q : H b with
    | none => rfl
    | some u =>
      rcases hA b (by rw [q]; exact fun z => nomatch z) with e' | e'
      · rw [e'] at e q
        rw [hK (by rw [q]; exact fun z => nomatch z)] at e
        cases e
      · obtain ⟨p, hp, ep⟩ := List.mem_map.mp e'
        obtain ⟨_, _, n⟩ := tabs_mem hp
        rw [← ep, n] at e
        cases e)
  have modB : Mod K mg (hidT s₁.heap H) := ⟨inB, nsB hns, ⟨mb, nsB hb, hbb⟩, let ⟨mc, h1, h2⟩ := hlim; ⟨mc, nsB h1, h2⟩⟩
  have TB : TabsB K mg (hidT s₁.heap H) := fun p hp => by
    have hTp := hT p hp
    refine ⟨?_, fun z => ?_⟩
    · obtain ⟨bm, ob, b1, b2, b3, b4, b5, b6⟩ := hbm
      have nG : bm ≠ mainGlobals := fun q => by
        obtain ⟨o, es, ep, e, hd, _⟩ := hns
        rw [q, e] at b3
        cases b3
        rw [hd] at b6
        cases b6
      have nP : bm ≠ p.1 := fun q => by
        rw [q, hTp] at b3
        cases b3
        cases b6
      refine ⟨bm, ob, b1, b2, nG, nP, keepB b3 (noD b3 (fun vs n z => ?_) fun z => ?_), b4, b5, b6⟩
      · rw [b6] at z
        cases z
      · rw [b6] at z
        cases z
    · obtain ⟨o, es, ep, e, hd, _⟩ := hns
      rw [z, hTp] at e
      cases e
      cases hd
  have e0 : Env0 P w K mg (hidT s₁.heap H) callerA [] s₁ H := ⟨rfl, modB, fun b o e => of_hidT e, Nat.le_of_eq (hidT_size _ _), trivial, fun b hb => (nomatch (show b ∈ ([] : List Addr) from hb)), hok, .of_eq hg⟩
  have Rd : Rs K ⟨[], fun b => if b ∈ tabA K then none else H b, fun _ => none, []⟩ [] H := ⟨fun b o e => by
      have e : (if b ∈ tabA K then none else H b) = some o := e
      split at e
      · cases e
      · exact e, rfl, fun i d e => (by simp at e), fun b o e => (nomatch (show (none : Option HO) = some o from e)), fun b o e => (nomatch (show (none : Option HO) = some o from e)), fun i a d e => (by simp at e), fun i j a d u e h => (by simp at e),
      fun q h => ⟨⟨#[], hH q h, True.intro, fun pos cv hc => by
        have z : codeAmong pos [] = some cv := hc
        simp [codeAmong] at z⟩, if_pos (memT q h), rfl⟩, fun b o e => (nomatch (show (none : Option HO) = some o from e))⟩
  have sp0 : spD K 1 m [.ref a] H (fun v _ => v = .bl true) fun _ _ _ => False :=
    ⟨_, [], [.frz (intsV ns)], _, _, rfl, Rd, ⟨.ref a, [], rfl, ⟨a, ns.map V.int, rfl, hS, rvs_ints ns⟩, rfl⟩, hm, fun Γ' S' H' d v _ _ r q => by
      have q' : d = .bl true := q
      rw [q'] at r
      exact r, fun _ _ _ _ _ _ _ _ _ q => q.elim⟩
  refine codeAny_mono ((F _ inB (nsB hns) TB).run callerA [] s₁ H ⟨[.ref a], []⟩ [.ref a] [.ref a] _ _ (fun _ => rfl) hr e0 (hbind s₁ (.ref a)) (.cons rfl .nil) sp0) fun r s' h => ?_
  match r, h with
  | .error e, h => exact (hCX H e s' h).elim
  | .ok .next, h => exact False.elim h
  | .ok .brk, h => exact False.elim h
  | .ok .cont, h => exact False.elim h
  | .ok (.ret u), h =>
    obtain ⟨v, H', os, bare, un, hok', r', q⟩ := h
    have q' : v = .bl true := q
    rw [q'] at r'
    obtain rfl : u = Value.bool true := r'
    have key : ∀ b o, b ∉ tabA K → s₁.heap.get? b = some o → s'.heap.get? b = some o := fun b o nb e => by
      rcases hO b with z | z | ⟨ob, xs, z⟩
      · exact un.keep b o e z (fun y => nomatch (show b ∈ ([] : List Addr) from y)) (by simp)
      · exact absurd z nb
      · obtain ⟨e1, _⟩ := hok b _ z
        obtain ⟨e2, _⟩ := hok' b _ (un.frzs b ob _ z)
        rw [e] at e1
        cases e1
        exact e2
    have grown : ∀ p ∈ tabs K, ∃ more : Array Value, s'.heap.get? p.1 = some { cls := .none, data := .fields more } := fun p hp => by
      obtain ⟨more, z⟩ := un.tbls p.1 #[] (hH p hp)
      exact ⟨_, hok' p.1 _ z⟩
    refine ⟨rfl, ⟨fun b o e => ?_, fun b o e => ?_⟩, os, bare⟩
    · by_cases hb : b ∈ tabA K
      · obtain ⟨p, hp, ep⟩ := List.mem_map.mp hb
        obtain ⟨more, hm⟩ := grown p hp
        obtain ⟨c, hc, _⟩ := tabs_mem hp
        rw [← ep] at e ⊢
        rw [hT p hp] at e
        cases e
        exact .inr (.inl ⟨((PySem.W.codeHd_of_K KX hc).tab (hT p hp)).isCodeTable, rfl, #[], more, rfl, by rw [Array.empty_append]; exact hm⟩)
      · exact .inl (key b o hb e)
    · by_cases hb : b ∈ tabA K
      · obtain ⟨p, hp, ep⟩ := List.mem_map.mp hb
        obtain ⟨more, hm⟩ := grown p hp
        rw [← ep]
        exact ⟨_, hm⟩
      · exact ⟨o, key b o hb e⟩
theorem law_callD {P : Program} {w : World} {K : PySem.W.Frag} {mg mb : Str → Option Value} {CX : CXT} {k : Nat} {fa a : Addr} {fd : FuncData} {x : Str} {m : GX} {s₁ : Shared} {vs : List Value} {ns : List Int}
    (KX : K.In s₁.heap) (hns : s₁.heap.Ns mainGlobals mg) (hb : s₁.heap.Ns builtinsNs mb) (hbb : ∀ x : Str, x ≠ "__name__" → mb x = bootBuiltins x) (hlim : s₁.heap.NoLimit) (hg : s₁.gens = #[])
    (hT : TabsE K s₁.heap) (hbm : ∃ (bm : Addr) (ob : Obj), mg "__builtins__" = some (.ref bm) ∧ bm ≠ builtinsNs ∧ s₁.heap.get? bm = some ob ∧ ob.cls = .type "module" ∧ ob.dict = some builtinsNs ∧ ob.data = .plain)
    (ha : s₁.heap.get? a = some { cls := .type "list", data := .seq vs.toArray }) (hi : IntsAre vs ns) (hl : ns.length ≤ sizeLine) (hr : Room k callerA)
    (F : ∀ base : Heap, K.In base → base.Ns mainGlobals mg → TabsB K mg base → FnG true P w K mg base CX k fa fd [x] (spD K 1 m)) (hbind : ∀ (s : Shared) (u : Value), BindsTo s fd ⟨[u], []⟩ [(x, u)])
    (hm : m [.frz (intsV ns)] [] (fun d _ => d = .bl true) noE) (hCX : ∀ H e s', CX [] H s₁ (fun _ _ _ => False) e s' → False) :
    codeAny (model P w) callerA (.call (.ref fa) ⟨[.ref a], []⟩) (fun r s' => r = .ok (.ret (.bool true)) ∧ OldK s₁.heap s'.heap ∧ s'.os = s₁.os ∧ AllBare s'.gens) s₁ := by
  have rv := vals_ints hi
  have lenV := hi.length
  have isT : ∀ b : Addr, b ∈ tabA K → s₁.heap.get? b = some { cls := .none, data := .fields #[] } := fun b hb => by
    obtain ⟨p, hp, e⟩ := List.mem_map.mp hb
    rw [← e]
    exact hT p hp
  have memT : ∀ p ∈ tabs K, p.1 ∈ tabA K := fun p hp => List.mem_map.mpr ⟨p, hp, rfl⟩
  have aT : a ∉ tabA K := fun z => by
    have q := isT a z
    rw [ha] at q
    have z' : Data.seq vs.toArray _ = Data.fields #[] := congrArg Obj.data (Option.some.inj q)
    cases z'
  cases hk : K.lookup a with
  | some o =>
    have e := KX a o hk
    rw [ha] at e
    cases e
    refine law_coreD (H := fun b => if b ∈ tabA K then some (.tbl #[]) else none) KX hns hb hbb hlim hg hT hbm ha hr F hbind hm hCX (fun p hp => if_pos (memT p hp)) (fun b => ?_) (.inr ⟨_, vs.toArray, _, hk, rfl, rfl, rfl, by rw [List.size_toArray, lenV]; exact hl, by simpa using rv⟩) (fun b u z => ?_) (fun b z => ?_) fun z => absurd (show (if a ∈ tabA K then some (HO.tbl #[]) else none) = none from if_neg aT) z
    · by_cases hb : b ∈ tabA K
      · exact .inr (.inl hb)
      · exact .inl (if_neg hb)
    · by_cases hb : b ∈ tabA K
      · have z' := (if_pos hb).symm.trans z
        cases z'
        exact isT b hb
      · have z' := (if_neg hb).symm.trans z
        cases z'
    · by_cases hb : b ∈ tabA K
      · exact .inr hb
      · exact absurd (if_neg hb) z
  | none =>
    refine law_coreD (H := fun b => if b = a then some (.frz { cls := .type "list", data := .seq vs.toArray } (.lst (ns.map V.int))) else if b ∈ tabA K then some (.tbl #[]) else none) KX hns hb hbb hlim hg hT hbm ha hr F hbind hm hCX (fun p hp => (if_neg (show ¬ p.1 = a from fun z => aT (by rw [← z]; exact memT p hp))).trans (if_pos (memT p hp))) (fun b => ?_)
      (.inl (.inr ⟨{ cls := .type "list", data := .seq vs.toArray }, (if_neg aT).trans (if_pos rfl)⟩)) (fun b u z => ?_) (fun b z => ?_) fun _ => hk
    · by_cases hb : b = a
      · exact .inr (.inr ⟨_, _, if_pos hb⟩)
      · by_cases hb2 : b ∈ tabA K
        · exact .inr (.inl hb2)
        · exact .inl ((if_neg hb).trans (if_neg hb2))
    · by_cases hb : b = a
      · have z' := (if_pos hb).symm.trans z
        cases z'
        rw [hb]
        exact ⟨ha, by rw [List.length_map]; exact hl, vs, _, rv, ha⟩
      · have z1 := (if_neg hb).symm.trans z
        by_cases hb2 : b ∈ tabA K
        · have z' := (if_pos hb2).symm.trans z1
          cases z'
          exact isT b hb2
        · have z' := (if_neg hb2).symm.trans z1
          cases z'
    · by_cases hb : b = a
      · exact .inl hb
      · by_cases hb2 : b ∈ tabA K
        · exact .inr hb2
        · exact absurd ((if_neg hb).trans (if_neg hb2)) z
theorem walk_ofD {l : PySem.W.OpenLaw} {n k : Nat} {q : Program} {loose : List Str} {XP : (Str → Option Value) → Heap → Prop} {YP : World → Heap → Prop} {d : DefRec} {CX : CXT} {x : Str} {m : GX}
    (hn : l.most = some n) (hn2 : n ≤ sizeLine) (hdf : d.params.defaults = []) (hr : Room k callerA) (hm : LawG n m)
    (F : ∀ (w : World) (mg : Str → Option Value) (fa : Addr) (h : Heap), YP w h → h.Ns mainGlobals mg → mg d.name = some (.ref fa) →
      ∃ (K : PySem.W.Frag) (fd : FuncData), K.In h ∧ TabsE K h ∧ (∀ (s : Shared) (u : Value), BindsTo s fd ⟨[u], []⟩ [(x, u)]) ∧
        ∀ base : Heap, K.In base → base.Ns mainGlobals mg → TabsB K mg base → FnG true l.prog w K mg base CX k fa fd [x] (spD K 1 m))
    (hCX : ∀ (H : Hp) (s : Shared) (e : Value) (s' : Shared), CX [] H s (fun _ _ _ => False) e s' → False) :
    PySem.W.WalkO q loose XP YP l.row.toRowW d [] (fun f vs => PySem.call f vs) := by
  refine Att.attach_callB hn hdf fun w s₀ s₁ mg mb fa o pm cd doc a vs ns G Y ho hd hcd hmg hobj hints hlen hbits hg => ?_
  obtain ⟨K, fd, KX, hT, hb, hF⟩ := F w mg fa _ Y G.T.g hmg
  exact law_callD KX G.T.g G.T.b G.T.builtins G.T.nolimit hg hT G.T.bmain hobj hints (Nat.le_trans hlen hn2) hr hF hb (hm ns hlen hbits) fun H e s' => hCX H s₁ e s'
end DL
/-! D layer, part 10: sum of truths. -/
namespace PySem
section
variable {prog : Program} {w : World} {A : Around} {R : Result → Shared → Prop} {I : Addr} {fp wr : List Addr} {n : Nat} {P : Nat → Value → Prop} {St : Nat → Heap → Prop}
end
end PySem
namespace DL
open PySem PySem.Spec PyProof.Rows L2
def boolsV (bs : List Bool) : List DV := bs.map DV.bl
def countB : List Bool → Int
  | [] => 0
  | b :: r => (if b then 1 else 0) + countB r
/-- sum of a list of truths -/
def gSumB : GN
  | [.lst ds], S, Q => ∃ bs, ds = boolsV bs ∧ Q (.int (countB bs)) S
  | _, _, _ => False
end DL
/-! D layer, part 11: walks over what is a list or a tuple. -/
namespace DL
open PySem PySem.Spec PyProof.Rows L2
def iSeqA (K : PySem.W.Frag) (tl : TE) : TI := fun σ H R => tl σ H fun x H1 => ∃ a xs, x = .ref a ∧ ((SqL K H1 a xs ∧ R (Itl K a) H1) ∨ (SqT K H1 a xs ∧ R (Itt K a) H1))
def iS (a : ME) : MI := fun δ S Q E => a δ S (fun d S1 => match d with
  | .tup ds => Q ds S1
  | .lst ds => Q ds S1
  | .frz ds => Q ds S1
  | _ => False) E
def gUnL (ts : List Tg) : MG := fun d δ S Q => (¬ ∃ cs, d = .tup cs) ∧ gUn ts d δ S Q
section
variable {X : Cx} {W : WX} {e tg : Expr} {me : ME}
theorem pi_seqA {tl : TE} (he : PE X e tl) : PI X tg e (iSeqA X.K tl) := by
  refine ⟨fun pins s σ H R I h => ?_⟩
  refine thn (he.run pins s σ H _ I h) fun v s1 ⟨x, H1, I1, r1, a, xs, ea, q⟩ => ?_
  subst ea
  cases r1
  have fresh : ∀ b, b ∈ [s1.heap.objs.size] → _ := fun b hb => by
    have eb : b = s1.heap.objs.size := by simpa using hb
    subst eb
    exact I1.fpOk (Nat.le_refl _) (I1.hok.fresh (Nat.le_refl _))
  rcases q with ⟨hq, q⟩ | ⟨hq, q⟩
  · obtain ⟨its, rv, p, hz⟩ := I1.list hq
    exact wpAny_pyIter_list p.isList ⟨s1.heap.objs.size, [s1.heap.objs.size], _, _, H1, rfl, I1.kept (t' := s1.toks) fun b o e => Heap.get?_push_of_some _ e, turn_list a _, ⟨_, Heap.get?_push_size _ rfl, rfl, rfl⟩, fresh, q⟩
  · obtain ⟨its, rv, p, hz⟩ := I1.tuple hq
    exact wpAny_pyIter_tuple (show s1.heap.IsTuple a its.toArray from p) ⟨s1.heap.objs.size, [s1.heap.objs.size], _, _, H1, rfl, I1.kept (t' := s1.toks) fun b o e => Heap.get?_push_of_some _ e, turn_tuple a _, ⟨_, Heap.get?_push_size _ rfl, rfl, rfl⟩, fresh, q⟩
theorem di_seq (he : DE X W e me) : DI X W tg e (iS me) := PI.imp (pi_seqA he) fun σ H R ⟨Γ, S, δ, Qd, Ed, c, m, kq, ke⟩ => ⟨Γ, S, δ, _, Ed, c, m, fun Γ1 S1 H1 d1 v1 e1 R1 r1 q1 => by
  cases d1 with
  | tup ds =>
    obtain ⟨p, vs, rfl, h2, h3⟩ := r1
    exact ⟨p, vs, rfl, .inr ⟨sqT_sub R1.sub (.of h2), kq Γ1 S1 H1 ds _ e1 R1 (itd_tup (.of h2) h3) q1⟩⟩
  | lst ds =>
    obtain ⟨p, vs, rfl, h2, h3⟩ := r1
    exact ⟨p, vs, rfl, .inl ⟨SqL.of (R1.sub _ _ h2), kq Γ1 S1 H1 ds _ e1 R1 (itd_lst (SqL.of h2) h3) q1⟩⟩
  | frz ds =>
    obtain ⟨p, vs, rfl, h2, h3⟩ := r1
    exact ⟨p, vs, rfl, .inl ⟨sqL_sub R1.sub h2, kq Γ1 S1 H1 ds _ e1 R1 (itd_lst h2 h3) q1⟩⟩
  | _ => exact False.elim q1, ke⟩
theorem dg_unL {es : List Expr} {ts : List Tg} {pos : Pos} {k : Nat} (hc : X.calm = true) (h : DTgs X es ts) (hn : (assignEach es X.env).length = ts.length := by rfl) (hst : (assignEach es X.env).findIdx? (·.1) = none := by rfl) : DG X (.Tuple es k pos) (gUnL ts) :=
  dg_un hc h hn hst
end
end DL
/-! D layer, part 12: tuple * int, sorted. -/
namespace DL
open PySem PySem.Spec PyProof.Rows L2
/-- a tuple times a number -/
def fMulT : G2
  | .tup xs, .int k, S, Q => xs ≠ [] ∧ 0 ≤ k ∧ k ≤ 1000 ∧ xs.length ≤ 1000 ∧ Q (.tup (List.replicate k.toNat xs).flatten) S
  | _, _, _, _ => False
section
variable {X : Cx}
/-! ### sorted -/
open PySem.W in
def gSorted : GN
  | [.lst ds], S, Q => ∃ ps, toPs ds = some ps ∧ AllAlike ps ∧ Sortable ps ∧ ds.length ≤ 16777216 ∧ (∀ p ∈ ps, p.depth ≤ 60) ∧ Q (.lst (((ds.zip ps).mergeSort (dataLe false Prod.snd)).map Prod.fst)) S
  | _, _, _ => False
theorem toPs_inv {d : DV} {ds : List DV} {ps : List PyData} (h : toPs (d :: ds) = some ps) : ∃ p qs, toP d = some p ∧ toPs ds = some qs ∧ ps = p :: qs := by
  simp only [toPs] at h
  split at h
  · rename_i p qs h1 h2
    cases h
    exact ⟨p, qs, h1, h2, rfl⟩
  · cases h
theorem toPs_len : ∀ {ds : List DV} {ps : List PyData}, toPs ds = some ps → ps.length = ds.length
  | [], ps, h => by cases h; rfl
  | d :: ds, ps, h => by
    obtain ⟨p, qs, _, h2, rfl⟩ := toPs_inv h
    rw [List.length_cons, List.length_cons, toPs_len h2]
theorem each_of {pins : List (Addr × Obj)} {σ : L2.St} {H : Hp} {s : Shared} {Γ : AG} {S : Store} (I : Inv X pins σ H s) (R : Rs X.K Γ S H) : ∀ (ds : List DV) (ps : List PyData) (vs : List V) (us : List Value), RVs X.K Γ ds vs → toPs ds = some ps → Vals vs us →
    PySem.W.EachIs (fun u (b : DV × PyData) => ∃ v, RV X.K Γ b.1 v ∧ RelV v u) us (ds.zip ps) ∧ PySem.W.EachIs (fun u (b : DV × PyData) => ∃ as, Reads s.heap u b.2 as) us (ds.zip ps)
  | [], ps, vs, us, r, e, q => by
    cases (show vs = [] from r)
    cases e
    cases q
    exact ⟨.nil, .nil⟩
  | d :: ds, ps, vs, us, r, e, q => by
    obtain ⟨v, ws, rfl, h2, h3⟩ := r
    obtain ⟨p, qs, h4, h5, rfl⟩ := toPs_inv e
    cases q with
    | cons q1 q2 =>
      obtain ⟨g1, g2⟩ := each_of I R ds qs ws _ h3 h5 q2
      exact ⟨.cons ⟨v, h2, q1⟩ g1, .cons (reads_of I R d p v _ h2 h4 q1) g2⟩
theorem each_back {Γ : AG} : ∀ {us : List Value} {bs : List (DV × PyData)}, PySem.W.EachIs (fun u (b : DV × PyData) => ∃ v, RV X.K Γ b.1 v ∧ RelV v u) us bs → ∃ vs, RVs X.K Γ (bs.map Prod.fst) vs ∧ Vals vs us
  | _, _, .nil => ⟨[], rfl, .nil⟩
  | _, _, .cons ⟨v, h1, h2⟩ t => by
    obtain ⟨vs, g1, g2⟩ := each_back t
    exact ⟨v :: vs, ⟨v, vs, rfl, h1, g1⟩, .cons h2 g2⟩
theorem cd_sorted (hu : X.A.units + 64 < cLine) : CallD X (.builtin "sorted") gSorted := by
  intro pins s σ H xs us Q I rx h
  obtain ⟨Γ, S, ds, Qd, R, r1, hg, kq⟩ := h
  obtain ⟨xs', rfl, ps, hp, hal, hso, hl, hd, q⟩ : ∃ xs, ds = [.lst xs] ∧ ∃ ps, toPs xs = some ps ∧ PySem.W.AllAlike ps ∧ PySem.W.Sortable ps ∧ xs.length ≤ 16777216 ∧ (∀ p ∈ ps, p.depth ≤ 60) ∧ Qd (.lst (((xs.zip ps).mergeSort (PySem.W.dataLe false Prod.snd)).map Prod.fst)) S := by
    clear r1
    unfold gSorted at hg
    split at hg
    · exact ⟨_, rfl, hg⟩
    · exact hg.elim
  obtain ⟨v, rfl, r⟩ := r1.one
  obtain ⟨p, vs, rfl, h1, h2⟩ := R.lst r
  obtain ⟨its, rv, hli, hz⟩ := I.list (SqL.of h1)
  obtain ⟨u, ws, rfl, ru, rn⟩ := vals_cons rx
  cases (show u = Value.ref p from ru)
  cases vals_nil rn
  obtain ⟨e1, e2⟩ := each_of I R xs' ps vs its h2 hp rv
  have hpl := toPs_len hp
  have em : (xs'.zip ps).map Prod.snd = ps := List.map_snd_zip (by omega)
  have lz : (xs'.zip ps).length = xs'.length := by rw [List.length_zip]; omega
  refine PySem.W.sorted_data (enc := Prod.snd) hli.isList e1 e2 (by rw [em]; exact hal) (by rw [em]; exact hso) (by rw [lz]; exact line_le hl) (fun b hb => ?_) fun out ho er => ?_
  · have := hd b.2 (by rw [← em]; exact List.mem_map.mpr ⟨b, hb, rfl⟩)
    omega
  · obtain ⟨vs', g1, g2⟩ := each_back er
    obtain ⟨ep, he'⟩ := PyProof.Rows.sortedAll_at s.heap its out.toArray
    have hlen : vs'.length ≤ sizeLine := by
      rw [g2.length, ho, lz]
      exact line_le hl
    exact ⟨.ref _, upd H (s.heap.objs.size + 1) (.lst vs'), I.laid (t' := s.toks) (fun _ _ => PyProof.Rows.sortedAll_old) (Nat.le_succ _) ⟨hlen, out, ep, g2, he'⟩, rfl, kq.newL R (I.hok.fresh (Nat.le_succ _)) g1 q⟩
end
end DL
/-! D layer, part 13: a comprehension stored under a name; the module's numbers; two comparisons in a row. -/
namespace DL
open PySem PySem.Spec PyProof.Rows L2
theorem Rs.giveL {K : PySem.W.Frag} {Γ1 : AG} {A2 : List Addr} {G2 : Hp} {S2 : Store} {H2 : Hp} {D : Addr} {us : List V} {ys : List DV} (R2 : Rs K ⟨A2, G2, upd Γ1.F D (.lst us), Γ1.T⟩ S2 H2) (hF : Γ1.F D = none) (e2 : Ext Γ1 ⟨A2, G2, Γ1.F, Γ1.T⟩) (r2 : RVs K ⟨A2, G2, Γ1.F, Γ1.T⟩ ys us) :
    Rs K ⟨A2, upd G2 D (.lst us), Γ1.F, Γ1.T⟩ S2 H2 ∧ Ext Γ1 ⟨A2, upd G2 D (.lst us), Γ1.F, Γ1.T⟩ ∧ RV K ⟨A2, upd G2 D (.lst us), Γ1.F, Γ1.T⟩ (.lst ys) (.ref D) := by
  have hG : G2 D = none := R2.fdis D _ upd_same
  have E2 : Ext ⟨A2, G2, Γ1.F, Γ1.T⟩ ⟨A2, upd G2 D (.lst us), Γ1.F, Γ1.T⟩ := ⟨⟨[], by simp⟩, fun a u ea => by
    show upd G2 D (.lst us) a = some u
    have hne : a ≠ D := fun z => by
      have ea' : G2 a = some u := ea
      rw [z, hG] at ea'
      cases ea'
    rw [upd_ne hne]
    exact ea, rfl, rfl⟩
  exact ⟨R2.give rfl hF, e2.trans E2, D, us, rfl, upd_same, RVs.mono (Γ := ⟨A2, G2, Γ1.F, Γ1.T⟩) (Γ' := ⟨A2, upd G2 D (.lst us), Γ1.F, Γ1.T⟩) E2 _ _ r2⟩
section
variable {X : Cx} {W : WX} {elt tg iter : Expr} {ifs : List Expr} {scope : Scope} {own : List (Str × Nat)} {pos spos py : Pos} {mi : MI} {t : Tg} {mt : MT} {me : ME} {i : Nat} {y : Str}
variable (hc : X.calm = true) (hN : X.N.Nodup) (hi : DI X W tg iter mi) (ok : BlkOk X.N X.env.scope scope own) (hn : ∀ i ∈ namesT t, i ∈ own.map (·.2))
  (hg : ∀ (s : Shared) (H : Hp) (C : Addr) (cl : List (Str × Addr)) (fp : List Addr), DTg (X.blk s H scope (compEnvC scope cl C X.env) fp) tg t)
  (ht : ∀ (s : Shared) (H : Hp) (C : Addr) (cl : List (Str × Addr)) (fp : List Addr), DTs (X.blk s H scope (compEnvC scope cl C X.env) fp) noW ifs mt)
  (he : ∀ (s : Shared) (H : Hp) (C : Addr) (cl : List (Str × Addr)) (fp : List Addr), DE (X.blk s H scope (compEnvC scope cl C X.env) fp) noW elt me)
include hc hN hi ok hn hg ht he
end
section
variable {X : Cx} {W : WX} {a b c : Expr} {ma mb mc : ME} {pos : Pos} {x : Str} {i : Int}
end
end DL
/-! D layer, part 14: isinstance, max. -/
namespace DL
open PySem PySem.Spec PyProof.Rows L2
/-- the type of a datum -/
def tyD (S : Store) : DV → Option String
  | .non => some "NoneType"
  | .bl _ => some "bool"
  | .int _ => some "int"
  | .str _ => some "str"
  | .tup _ => some "tuple"
  | .lst _ => some "list"
  | .frz _ => some "list"
  | .dct => some "dict"
  | .dcx => some "dict"
  | .ref i => match S[i]? with
    | some (some (.lst _)) => some "list"
    | some (some (.dct _)) => some "dict"
    | _ => none
  | _ => none
/-- isinstance(x, T), T built in -/
def gIsi : GN
  | [d, .ty n], S, Q => match tyD S d with
    | some t => (match kitB t n with
      | some b => Q (.bl b) S
      | none => False)
    | none => False
  | _, _, _ => False
section
variable {X : Cx} {W : WX} {pos : Pos} {x : Str} {n : String}
/-- max(i, j) -/
def gMax2 : GN
  | [.int i, .int j], S, Q => Q (.int (if j > i then j else i)) S
  | _, _, _ => False
end
end DL
/-! D layer, part 15: max of a tuple, x in a tuple. -/
namespace DL
open PySem PySem.Spec PyProof.Rows L2
section
variable {X : Cx}
end
end DL
/-! D layer, part 16: two comparisons in a row as a test. -/
namespace DL
open PySem PySem.Spec PyProof.Rows L2
section
variable {X : Cx} {W : WX} {a b c : Expr} {ma mb mc : ME} {g g' : G2} {pos : Pos} {σ : L2.St} {H : Hp} {Q : VK}
end
end DL
/-! D layer, part 17: sorted of tuples the first of which is empty. -/
namespace DL
open PySem PySem.Spec PyProof.Rows L2 PySem.W PySem.SeqAt
section
variable {prog : Program} {w : World} {A : Around} {E : Value → Shared → Prop} {s : Shared}
end
end DL
/-! D layer, part 18: sorted of tuples the first of which is empty, over data; a list times a number that is changed later. -/
namespace DL
open PySem PySem.Spec PyProof.Rows L2 PySem.W
theorem shut_ex {α : Type} (a : α) : ∃ b, b = a := ⟨a, rfl⟩
/-- a word that Lean never opens by itself -/
noncomputable def shut {α : Type} (a : α) : α := Classical.choose (shut_ex a)
theorem shut_eq {α : Type} (a : α) : shut a = a := Classical.choose_spec (shut_ex a)
theorem app3 {f g : MS} (h : f = g) {D : EndsD} {δ : DEnv} {S : Store} : f D δ S = g D δ S := by rw [h]
theorem app4 {f g : GX} (h : f = g) {ds : List DV} {S : Store} {Q : MK DV} {E : MX} : f ds S Q E = g ds S Q E := by rw [h]
def Tups (ps : List PyData) : Prop := ∃ qs, ps = .tuple [] :: qs ∧ ∀ p ∈ qs, ∃ xs, p = .tuple xs
theorem Tups.all {ps : List PyData} (h : Tups ps) : ∀ p ∈ ps, ∃ xs, p = .tuple xs := by
  obtain ⟨qs, rfl, hq⟩ := h
  intro p hp
  rcases List.mem_cons.mp hp with rfl | hp
  · exact ⟨[], rfl⟩
  · exact hq p hp
section
variable {X : Cx}
/-- a list times a number, a list that is changed later -/
def fMulO : G2
  | .lst xs, .int k, S, Q => -(2 ^ 63) ≤ k ∧ k < 2 ^ 63 ∧ xs.length * k.toNat ≤ 16777216 ∧ Q (.ref S.length) (S ++ [some (.lst (List.replicate k.toNat xs).flatten)])
  | _, _, _, _ => False
theorem opd_mulO : OpD X (binaryOp .Mult) fMulO := by
  intro pins s σ H x y v u Q I rx ry h
  obtain ⟨Γ, S, dx, dy, Qd, R, r1, r2, hg, kq⟩ := h
  cases dx with
  | lst xs =>
    cases dy with
    | int k =>
      obtain ⟨a, vs, rfl, h1, h2⟩ := R.lst r1
      cases r2.int
      obtain ⟨c1, c2, c3, hg⟩ := hg
      have key : ∀ n : Nat, RVs X.K Γ (List.replicate n xs).flatten (List.replicate n vs).flatten := by
        intro n
        induction n with
        | zero => exact rfl
        | succ n ih =>
          rw [List.replicate_succ, List.replicate_succ, List.flatten_cons, List.flatten_cons]
          exact h2.append ih
      exact op_rep pins s σ H _ _ v u Q I rx ry ⟨a, k, vs, rfl, rfl, h1, c1, c2, by rw [← h2.length]; exact line_le c3, fun p hp => kq.push (d := .lst (List.replicate k.toNat xs).flatten) R hp ⟨_, rfl, key _⟩ hg⟩
    | _ => exact False.elim hg
  | _ => cases dy <;> exact False.elim hg
end
end DL
/-! D layer, part 19: a list beside the empty list. -/
namespace DL
open PySem PySem.Spec PyProof.Rows L2 PySem.W PySem.SeqAt
/-- the items of a list -/
def lstD (S : Store) : DV → Option (List DV)
  | .lst ds => some ds
  | .frz ds => some ds
  | .ref i => match S[i]? with
    | some (some (.lst ds)) => some ds
    | _ => none
  | _ => none
/-- xs == [], xs != [] -/
def fEqN (q : Bool → Bool) : G2 := fun x y S Q => y = .lst [] ∧ match lstD S x with
  | some ds => Q (.bl (q ds.isEmpty)) S
  | none => False
theorem lstD_of {K : PySem.W.Frag} {Γ : AG} {S : Store} {H : Hp} {d : DV} {v : V} {ds : List DV} (R : Rs K Γ S H) (r : RV K Γ d v) (e : lstD S d = some ds) : ∃ p vs, v = .ref p ∧ SqL K H p vs ∧ RVs K Γ ds vs := by
  cases d with
  | lst cs =>
    cases e
    obtain ⟨p, vs, h1, h2, h3⟩ := R.lst r
    exact ⟨p, vs, h1, SqL.of h2, h3⟩
  | frz cs =>
    cases e
    exact R.frz r
  | ref i =>
    have e' : (match S[i]? with
      | some (some (DO.lst ds)) => some ds
      | _ => none) = some ds := e
    cases h : S[i]? with
    | none =>
      rw [h] at e'
      cases e'
    | some o =>
      cases o with
      | none =>
        rw [h] at e'
        cases e'
      | some o =>
        cases o with
        | lst cs =>
          rw [h] at e'
          cases e'
          obtain ⟨a, h1, h2, vs, h3, h4⟩ := R.ref r h
          exact ⟨a, vs, h1, SqL.of h3, h4⟩
        | ins _ _ =>
          rw [h] at e'
          cases e'
        | dct _ =>
          rw [h] at e'
          cases e'
        | pp _ =>
          rw [h] at e'
          cases e'
  | _ => cases e
section
variable {X : Cx}
theorem eqN_run {pins : List (Addr × Obj)} {s : Shared} {σ : L2.St} {H : Hp} {x y : V} {v u : Value} {Q : VK} (hu : X.A.units + 64 < cLine) (I : Inv X pins σ H s) (rx : RelV x v) (ry : RelV y u) {Γ : AG} {S : Store} {dx dy : DV} {Qd : MK DV} (R : Rs X.K Γ S H) (r1 : RV X.K Γ dx x) (r2 : RV X.K Γ dy y)
    (kq : KQ (RV X.K) X.K Γ Qd Q) : (fEqN (fun b => b) dx dy S Qd → wpAny (model X.prog X.w) X.A (compareOp .Eq v u) (EP X pins σ Q) X.xe s) ∧ (fEqN (fun b => !b) dx dy S Qd → wpAny (model X.prog X.w) X.A (compareOp .NotEq v u) (EP X pins σ Q) X.xe s) := by
  have key : ∀ {q : Bool → Bool}, fEqN q dx dy S Qd → ∃ (a b : Addr) (its its2 : List Value), v = .ref a ∧ u = .ref b ∧ s.heap.IsList a its.toArray ∧ s.heap.IsList b its2.toArray ∧ its2 = [] ∧ Qd (.bl (q its.isEmpty)) S := by
    intro q ⟨hy, h⟩
    subst hy
    cases e : lstD S dx with
    | none =>
      rw [e] at h
      exact h.elim
    | some ds =>
      rw [e] at h
      obtain ⟨a, vs, rfl, ha, hv⟩ := lstD_of R r1 e
      obtain ⟨b, ws, rfl, hb, hw⟩ := R.lst r2
      cases (show ws = [] from hw)
      cases rx
      cases ry
      obtain ⟨its, rv, l1, _⟩ := I.list ha
      obtain ⟨its2, rv2, l2, _⟩ := I.list (.inl (.inl hb))
      cases vals_nil rv2
      have pl : ∀ {a : Addr} {it : Array Value}, PlainL s.heap a it → s.heap.IsList a it := fun ⟨o, n, h1, h2, h3, h4⟩ => ⟨o, h1, h2, n, h4⟩
      refine ⟨a, b, its, [], rfl, rfl, pl l1, pl l2, rfl, ?_⟩
      have e1 : ds.isEmpty = its.isEmpty := by
        have h1 := hv.length
        have h2 := rv.length
        cases ds <;> cases its <;> simp_all
      rw [← e1]
      exact h
  constructor
  · intro h
    obtain ⟨a, b, its, its2, rfl, rfl, l1, l2, rfl, hq⟩ := key h
    cases its with
    | nil => exact PySem.SeqAt.RcAt.lists (e := fun _ => true) l1 l2 rfl (by omega) (fun j h1 => absurd h1 (by simp)) _ _ _ _ ⟨.bl true, H, I, rfl, kq.here (d := .bl true) R rfl hq⟩
    | cons z its => exact PySem.SeqAt.RcAt.lists_lengths l1 l2 (by simp) (by omega) _ _ _ _ ⟨.bl false, H, I, rfl, kq.here (d := .bl false) R rfl hq⟩
  · intro h
    obtain ⟨a, b, its, its2, rfl, rfl, l1, l2, rfl, hq⟩ := key h
    cases its with
    | nil => exact PySem.SeqAt.RcNeAt.lists (e := fun _ => true) l1 l2 rfl (by omega) (fun j h1 => absurd h1 (by simp)) _ _ _ _ ⟨.bl false, H, I, rfl, kq.here (d := .bl false) R rfl hq⟩
    | cons z its => exact PySem.SeqAt.RcNeAt.lists_lengths l1 l2 (by simp) (by omega) _ _ _ _ ⟨.bl true, H, I, rfl, kq.here (d := .bl true) R rfl hq⟩
theorem opd_eqN (hu : X.A.units + 64 < cLine) : OpD X (compareOp .Eq) (fEqN fun b => b) := by
  intro pins s σ H x y v u Q I rx ry ⟨Γ, S, dx, dy, Qd, R, r1, r2, hg, kq⟩
  exact (eqN_run hu I rx ry R r1 r2 kq).1 hg
end
theorem fEqN_l {q : Bool → Bool} {ds : List DV} {S : Store} {Q : MK DV} : fEqN q (.lst ds) (.lst []) S Q = Q (.bl (q ds.isEmpty)) S := by
  show (DV.lst [] = DV.lst [] ∧ Q (.bl (q ds.isEmpty)) S) = _
  rw [eq_self, true_and]
end DL
/-! D layer, part 20: methods of lists and texts. -/
namespace DL
open PySem PySem.Spec PyProof.Rows L2 PySem.W
abbrev GM := DV → List DV → Store → MK DV → Prop
def tOM (K : PySem.W.Frag) (g : GM) : V → List V → Hp → VK → Prop := fun x xs H Q => ∃ Γ S dx ds Qd, Rs K Γ S H ∧ RV K Γ dx x ∧ RVs K Γ ds xs ∧ g dx ds S Qd ∧ KQ (RV K) K Γ Qd Q
def MtD (X : Cx) (id : String) (g : GM) : Prop := MtR X id (tOM X.K g)
theorem mtd_of {X : Cx} {id : String} {g : GM} {r : V → List V → Hp → VK → Prop} (ho : MtR X id r)
    (i : ∀ Γ S H dx ds x xs Qd Q, Rs X.K Γ S H → RV X.K Γ dx x → RVs X.K Γ ds xs → g dx ds S Qd → KQ (RV X.K) X.K Γ Qd Q → r x xs H Q) : MtD X id g := by
  intro pins s σ H x xs v us Q I rx rs ⟨Γ, S, dx, ds, Qd, R, r1, r2, hg, kq⟩
  exact ho pins s σ H x xs v us Q I rx rs (i Γ S H dx ds x xs Qd Q R r1 r2 hg kq)
/-- of that built-in type -/
def tyM (T : String) (d : DV) (S : Store) : Prop := match d with
  | .str _ => T = "str"
  | d => T = "list" ∧ (lstD S d).isSome = true
def mMeth (T : String) (g : GM) (a : ME) (as : MA) : ME := fun δ S Q E => a δ S (fun x S1 => tyM T x S1 ∧ as δ S1 (fun xs S2 => g x xs S2 Q) E) E
def mMeth0 (T : String) (g : GM) (a : ME) : ME := fun δ S Q E => a δ S (fun x S1 => tyM T x S1 ∧ g x [] S1 Q) E
theorem tyM_of {K : PySem.W.Frag} {Γ : AG} {S : Store} {H : Hp} {T : String} {d : DV} {v : V} (R : Rs K Γ S H) (r : RV K Γ d v) (h : tyM T d S) : tyV K T v H := by
  have key : (T = "list" ∧ (lstD S d).isSome = true) → tyV K T v H := fun ⟨h1, h2⟩ => by
    cases e : lstD S d with
    | none =>
      rw [e] at h2
      cases h2
    | some ds =>
      obtain ⟨p, vs, rfl, h3, _⟩ := lstD_of R r e
      exact .inl ⟨h1, vs, h3⟩
  cases d with
  | str x =>
    cases (show v = .str x from r)
    exact h
  | _ => exact key h
section
variable {X : Cx} {W : WX} {o e : Expr} {es : List Expr} {mo : ME} {mas : MA} {name : Str} {apos cpos : Pos} {T id : String} {g : GM}
theorem d_bm (pa : PlainAttrs T) (slot : Slot T name id) (hty : typeOf (.builtin id) = pure (.type "method_descriptor")) (hm : MtD X id g) (ho : DE X W o mo) (ha : DA X W (e :: es) mas)
    (hbase : attributeBase o name X.env (eval o X.env) = eval o X.env := by rfl)
    (hfew : ((backTo cpos (starEach (e :: es) X.env)).all (fun x => !x.1) && (backToKw cpos (keywordEach [] X.env)).all (fun x => x.1.isSome)
      && decide ((e :: es).length + ([] : List Keyword).length + (if ([] : List Keyword).isEmpty then 0 else 1) < 30)) = true := by rfl)
    (hline : (apos.endLine == cpos.line) = true := by rfl) (hs : starEach (e :: es) X.env = (false, eval e X.env) :: starEach es X.env := by rfl) (hplain : (backTo cpos (starEach es X.env)).any (·.1) = false := by rfl) :
    DE X W (.Call (.Attribute o name apos) (e :: es) [] cpos) (mMeth T g mo mas) :=
  PE.imp (pe_bm pa slot hty hm ho ha hbase hfew hline hs hplain) fun σ H Q ⟨Γ, S, δ, Qd, Ed, c, m, kq, ke⟩ => ⟨Γ, S, δ, _, Ed, c, m, fun Γ1 S1 H1 d1 v1 e1 R1 r1 q1 =>
    ⟨tyM_of R1 r1 q1.1, Γ1, S1, δ, _, Ed, c.mk' R1 e1, q1.2, fun Γ2 S2 H2 ds vs e2 R2 r2 q2 => ⟨Γ2, S2, d1, ds, Qd, R2, RV.mono e2 _ _ r1, r2, q2, kq.mono (e1.trans e2)⟩, ke.mono e1⟩, ke⟩
end
/-! ### lists -/
/-- a mutable list -/
def mutL (S : Store) : DV → Option (Nat × List DV)
  | .ref i => match S[i]? with
    | some (some (.lst ds)) => some (i, ds)
    | _ => none
  | _ => none
theorem mutL_of {K : PySem.W.Frag} {Γ : AG} {S : Store} {H : Hp} {d : DV} {v : V} {i : Nat} {ds : List DV} (R : Rs K Γ S H) (r : RV K Γ d v) (e : mutL S d = some (i, ds)) : S[i]? = some (some (.lst ds)) ∧ ∃ a vs, v = .ref a ∧ Γ.A[i]? = some a ∧ H a = some (.lst vs) ∧ RVs K Γ ds vs := by
  cases d with
  | ref j =>
    have e' : (match S[j]? with
      | some (some (DO.lst ds)) => some (j, ds)
      | _ => none) = some (i, ds) := e
    match h : S[j]? with
    | some (some (.lst cs)) =>
      rw [h] at e'
      cases e'
      obtain ⟨a, h1, h2, vs, h3, h4⟩ := R.ref r h
      exact ⟨h, a, vs, h1, h2, h3, h4⟩
    | some (some (.ins _ _)) => rw [h] at e'; cases e'
    | some (some (.dct _)) => rw [h] at e'; cases e'
    | some (some (.pp _)) => rw [h] at e'; cases e'
    | some none => rw [h] at e'; cases e'
    | none => rw [h] at e'; cases e'
  | _ => cases e
def gAppend : GM := fun x xs S Q => ∃ i ds d, mutL S x = some (i, ds) ∧ xs = [d] ∧ ds.length < 16777216 ∧ Q .non (S.set i (some (.lst (ds ++ [d]))))
def gExtend : GM := fun x xs S Q => ∃ i ds d es, mutL S x = some (i, ds) ∧ xs = [d] ∧ d = .lst es ∧ ds.length + es.length ≤ 16777216 ∧ Q .non (S.set i (some (.lst (ds ++ es))))
section
variable {X : Cx}
theorem mtd_append : MtD X "list.append" gAppend := mtd_of mt_append fun Γ S H dx ds x xs Qd Q R r1 r2 ⟨i, es, d, h1, h2, h3, h4⟩ kq => by
  subst h2
  obtain ⟨hs, a, vs, rfl, ha, hv, rv⟩ := mutL_of R r1 h1
  obtain ⟨v, rfl, rd⟩ := r2.one
  exact ⟨a, vs, v, rfl, rfl, hv, by rw [← rv.length, sizeLine_eq]; exact h3, kq Γ _ _ .non .non (Ext.refl Γ) (R.write (d := .lst (es ++ [d])) hs ha ⟨_, rfl, RVs.snoc (Γ := Γ) rv rd⟩) rfl h4⟩
theorem mtd_extend : MtD X "list.extend" gExtend := mtd_of mt_extend fun Γ S H dx ds x xs Qd Q R r1 r2 ⟨i, es, d, fs, h1, h2, h5, h3, h4⟩ kq => by
  subst h2 h5
  obtain ⟨hs, a, vs, rfl, ha, hv, rv⟩ := mutL_of R r1 h1
  obtain ⟨v, rfl, rd⟩ := r2.one
  obtain ⟨b, ws, rfl, hb, rw_⟩ := R.lst rd
  exact ⟨a, b, vs, ws, rfl, rfl, hv, hb, by rw [← rv.length, ← rw_.length, sizeLine_eq]; exact h3, kq Γ _ _ .non .non (Ext.refl Γ) (R.write (d := .lst (es ++ fs)) hs ha ⟨_, rfl, RVs.append (Γ := Γ) rv rw_⟩) rfl h4⟩
end
/-! ### texts -/
section
variable {X : Cx}
end
/-! ### what is never reached -/
/-! ### step by step -/
variable {a : ME} {as : MA} {δ : DEnv} {S : Store} {Q : MK DV} {E : MX} {g : GM} {x : Str} {T : String}
theorem mMeth_e {b : ME} : mMeth T g a (mCons b mNil) δ S Q E = a δ S (fun x S1 => tyM T x S1 ∧ b δ S1 (fun y S2 => g x [y] S2 Q) E) E := id rfl
theorem mMeth0_e : mMeth0 T g a δ S Q E = a δ S (fun x S1 => tyM T x S1 ∧ g x [] S1 Q) E := id rfl
theorem tyM_str : tyM "str" (.str x) S = True := eq_self _
end DL
/-! D layer, part 21: exceptions with one field; raise, try. -/
namespace DL
open PySem PySem.Spec PyProof.Rows L2 PySem.W
/-- a new exception of the class with its field -/
def tMk1 (K : PySem.W.Frag) (cn fl : Str) (ta : TA) : L2.St → Hp → XK → Prop := fun σ H Q => ta σ H fun vs H1 => ∃ v, vs = [v] ∧ ∀ d, H1 d = none → Q (.ref (He.ga K cn)) (some d) (upd H1 d (.xd [(fl, v)]))
def tBy1 (K : PySem.W.Frag) (cn fl : Str) (a : Addr) (cls : Value) (d : Option Addr) (te : TE) : TE := fun σ H Q => te σ H fun x H1 => x = .ref a ∧ cls = .ref (He.ga K cn) ∧ ∃ (dd : Addr) (v : V), d = some dd ∧ H1 dd = some (.xd [(fl, v)]) ∧ Q v H1
/-- what the rules want of an exception's class -/
structure ExcF (K : PySem.W.Frag) (mg : Str → Option Value) (cn fl : Str) : Prop where
  glo : mg cn = some (.ref (He.ga K cn))
  mks : ∀ (X : Cx), X.K = K → X.mg = mg → ∀ {k : Nat} {a : Expr} {ta : TA} {p pos : Pos}, Room k X.A → PA X [a] ta → Gl X cn → (cn == ("__debug__" : Str)) = false → starEach (a :: []) X.env = (false, eval a X.env) :: starEach [] X.env → (backTo pos (starEach [] X.env)).any (·.1) = false →
    L2N.PMk X (.Call (.Name cn p) [a] [] pos) (tMk1 K cn fl ta)
  by_ : ∀ (X : Cx), X.K = K → X.mg = mg → ∀ {a : Addr} {oe : Obj} {cls : Value} {d : Option Addr} {pn : List (Addr × Obj)} {e : Expr} {te : TE} {pos : Pos}, Zc cls d oe → (∃ vs, oe.data = .fields vs) → PE (X.suite a ((a, oe) :: pn)) e te → attributeBase e fl X.env (eval e X.env) = eval e X.env →
    PE (X.suite a ((a, oe) :: pn)) (.Attribute e fl pos) (tBy1 K cn fl a cls d te)
section
variable {X : Cx} {W : WX} {e : Expr} {me : ME} {cn fl : Str}
end
end DL
/-! D layer, part 22: own facts of the head. -/
namespace DL
open PySem PySem.Spec PyProof.Rows L2 PySem.W
abbrev FB := PySem.W.Frag → Bool
/-- where a def stands: a global; a method; a property's, a classmethod's def -/
def atG (x : Str) : PySem.W.Frag → Addr := fun K => He.ga K x
def tabsOk (K : PySem.W.Frag) (g : Addr → Option Obj) : Bool := (tabs K).all fun p => match g p.1 with
  | some o => He.emptyTab o
  | none => false
/-- what is observed: the hook's facts, and own ones; the tables are empty -/
def obsX (n : Nat) (fa : List He.Fa) (fn : List He5.DefA) (own : List FB) (g : Addr → Option Obj) : He.AlD × Bool :=
  (He5.obsA fa fn (He.frT g (sysModules :: cStatics :: He.asD g n)), own.all (fun f => f (He.frT g (sysModules :: cStatics :: He.asD g n))) && tabsOk (He.frT g (sysModules :: cStatics :: He.asD g n)) g)
def SaysX (fa : List He.Fa) (fn : List He5.DefA) (own : List FB) (K : PySem.W.Frag) : Prop := He5.SaysA fa fn K ∧ own.all (fun f => f K) = true
theorem tabsE_of {K : PySem.W.Frag} {h : Heap} (e : tabsOk K h.get? = true) : TabsE K h := fun p hp => by
  have q := List.all_eq_true.mp e p hp
  cases z : h.get? p.1 with
  | none =>
    rw [z] at q
    cases q
  | some o =>
    rw [z] at q
    rw [He.emptyTab_eq q]
def hookX (n : Nat) (fa : List He.Fa) (fn : List He5.DefA) (own : List FB) : PySem.W.Hook where
  α := He.AlD × Bool
  obs := fun s => obsX n fa fn own s.heap.get?
  val := fun _ => (He5.valA fn, true)
  says := fun _ h => ∃ K : PySem.W.Frag, K.In h ∧ SaysX fa fn own K ∧ TabsE K h
  of := fun _ _ e => ⟨_, He.frT_in, ⟨congrArg Prod.fst e, (He.ba (congrArg Prod.snd e)).1⟩, tabsE_of (He.ba (congrArg Prod.snd e)).2⟩
  keeps := fun _ _ _ ⟨K, hK, c, t⟩ k => ⟨K, PySem.W.Frag.In.keeps hK k, c, fun p hp => k _ _ (t p hp)⟩
theorem obsX_eq {n : Nat} {fa : List He.Fa} {fn : List He5.DefA} {own : List FB} {g : Addr → Option Obj} {s : Shared} (h : ∀ a, g a = s.heap.get? a) : obsX n fa fn own g = (hookX n fa fn own).obs s := by
  have e : g = s.heap.get? := funext h
  rw [e]
  rfl
theorem SaysX.own {fa : List He.Fa} {fn : List He5.DefA} {own : List FB} {K : PySem.W.Frag} (c : SaysX fa fn own K) (i : Nat) {f : FB} (h : own[i]? = some f := by rfl) : f K = true :=
  List.all_eq_true.mp c.2 f (List.mem_of_getElem? h)
/-! ### an exception's class with one field -/
end DL
/-! D layer, part 23: bodies of try; what lets nothing out; strings. -/
namespace DL
open PySem PySem.Spec PyProof.Rows L2 PySem.W
theorem XC.tr {X : Cx} {k : Nat} {gd : Bool} (c : XC X k gd) {pn : List (Addr × Obj)} {xe : Value → Shared → Prop} (h : PassesOwn (model X.prog X.w) X.A X.env xe) : XC (X.tr pn xe) k gd := ⟨c.room, c.guards, c.calm, h⟩
/-! ### signs, parts of texts -/
section
variable {X : Cx} {W : WX} {a b : Expr} {ma mb : ME} {pos p2 : Pos} {lo hi : Option Expr} {ml mh : MP}
/-- {a text: a text}, never looked into -/
def mDcx : ME := fun _ S Q _ => Q .dcx S
end
theorem mDcx_e {δ : DEnv} {S : Store} {Q : MK DV} {E : MX} : mDcx δ S Q E = Q .dcx S := id rfl
end DL
/-! D layer, part 24: a lambda without parameters handed to a def. -/
namespace DL
open PySem PySem.Spec PyProof.Rows L2 PySem.W
/-- a lambda as its caller knows it -/
structure Act where
  A0 : List Addr
  G0 : Hp
  f : Addr
  c : Addr
  q : Str
  run : Store → MK DV → MX → Prop
def Act.dv (a : Act) : DV := .act a.A0 a.G0 a.f a.c a.q
/-- the first parameter, called -/
def mAct (a : Act) : ME := fun δ S Q E => δ[0]? = some (some a.dv) ∧ a.run S Q E
abbrev GA := Act → Store → MK DV → Prop
section
variable {K : PySem.W.Frag} {Γ : AG} {S : Store} {H : Hp}
end
section
variable {X : Cx} {pins : List (Addr × Obj)} {σ : L2.St} {H : Hp} {s : Shared}
end
/-- the context of a def's body that lets nothing out -/
abbrev cxA (P : Program) (w : World) (K : PySem.W.Frag) (mg : Str → Option Value) (base : Heap) (N : List Str) (x : Str) (sg : Scope) (f : Addr) (cdv : Value) (A : Around) (outer : List Env) (s : Shared) (H : Hp) : Cx :=
  cxOf L2.CX0 P w K mg base N x sg f cdv A outer s H fun _ _ _ => False
/-- what the def that got the lambda does with it -/
structure FnA (gd : Bool) (P : Program) (w : World) (K : PySem.W.Frag) (mg : Str → Option Value) (base : Heap) (k : Nat) (f : Addr) (fd : FuncData) (N : List Str) (x : Str) (sg : Scope) (a : Str) (g : GA) : Prop where
  nm : N[0]? = some a
  vis : Vis sg a
  run : ∀ (A : Around) (outer : List Env) (s : Shared) (H : Hp) (args : Args) (us : List Value) (Q : VK) (act : Act), (gd = true → A.guards = some []) → Room (k + 1) A → Env0 P w K mg base A outer s H → BindsTo s fd args ([a].zip us) → Vals [V.ref act.f] us →
    (∃ Γ S Qd, Rs K Γ S H ∧ RV K Γ act.dv (.ref act.f) ∧ g act S Qd ∧ KQ (RV K) K Γ Qd Q) →
    (∀ (cdv : Value) (W : WX) (pn : List (Addr × Obj)) (xe : Value → Shared → Prop) (p1 p2 : Pos), Room k (A.deeper (envOfC x sg s.heap.objs.size f cdv)) → Takes ((cxA P w K mg base N x sg f cdv A outer s H).tr pn xe) W →
      DE ((cxA P w K mg base N x sg f cdv A outer s H).tr pn xe) W (.Call (.Name a p1) [] [] p2) (mAct act)) →
    codeAny (model P w) A (.call (.ref f) args) (CR L2.CX0 outer P w H s Q fun _ _ _ => False) s
section
variable {P : Program} {w : World} {K : PySem.W.Frag} {mg : Str → Option Value} {base : Heap} {x a : Str} {params : Arguments} {body : List Stmt} {scope : Scope} {f : Addr} {fd : FuncData} {N : List Str} {k : Nat} {gd : Bool}
end
/-- a def of the module's that gets a lambda, by its name -/
structure CalA (gd : Bool) (P : Program) (w : World) (K : PySem.W.Frag) (mg : Str → Option Value) (base : Heap) (k : Nat) (x : Str) (g : GA) : Prop where
  ex : ∃ f fd N sg a, mg x = some (.ref f) ∧ PySem.W.keepIn K (.ref f) = true ∧ Binds K fd [a] [] ∧ (a == ("__debug__" : Str)) = false ∧ (a == ("__classdict__" : Str)) = false ∧ FnA gd P w K mg base k f fd N x sg a g
/-- the lambdas' maker: its code object and table -/
structure LamT (X : Cx) : Prop where
  ex : ∃ c P, X.env.code = .ref c ∧ LamX.TabB X.base X.mg c P ∧ (P, X.env.qual ++ "<lambda>") ∈ tabs X.K ∧ ∀ p ∈ tabs X.K, p.1 = P → p.2 = X.env.qual ++ "<lambda>"
section
variable {X : Cx} {W : WX}
end
section
variable {P : Program} {w : World} {K : PySem.W.Frag} {mg : Str → Option Value} {base : Heap} {x : Str} {params : Arguments} {body : List Stmt} {scope : Scope} {dvs : List V} {kws : List (Str × V)} {f : Addr} {fd : FuncData} {cx : CXT} {N ps : List Str} {k : Nat} {gd : Bool}
end
end DL
/-! D layer, part 25: texts of values in which {} lies. -/
namespace DL
open PySem PySem.Spec PyProof.Rows L2 PySem.W
mutual
/-- a value as the text tells it -/
def toPd : DV → Option PyData
  | .non => some .none
  | .bl b => some (.bool b)
  | .int i => some (.int i)
  | .str x => some (.str x)
  | .tup ds => match toPds ds with
    | some ps => some (.tuple ps)
    | none => none
  | .lst ds => match toPds ds with
    | some ps => some (.list ps)
    | none => none
  | .dct => some (.dict [])
  | .frz _ => none
  | .ty _ => none
  | .adr _ => none
  | .cls _ => none
  | .ref _ => none
  | .dcx => none
  | .act _ _ _ _ _ => none
  | .exc _ => none
  | .clo _ _ => none
  | .ins _ _ _ => none
def toPds : List DV → Option (List PyData)
  | [] => some []
  | d :: ds => match toPd d, toPds ds with
    | some p, some ps => some (p :: ps)
    | _, _ => none
end
section
variable {X : Cx} {pins : List (Addr × Obj)} {σ : L2.St} {H : Hp} {s : Shared} {Γ : AG} {S : Store}
mutual
theorem reads_ofD (I : Inv X pins σ H s) (R : Rs X.K Γ S H) : ∀ (d : DV) (p : PyData) (v : V) (u : Value), RV X.K Γ d v → toPd d = some p → RelV v u → ∃ as, Reads s.heap u p as ∧ ∀ a ∈ as, H a ≠ none
  | .non, p, v, u, r, e, q => by
    cases (show v = .non from r)
    cases e
    cases q
    exact ⟨_, Reads.none, fun a h => (nomatch h)⟩
  | .bl b, p, v, u, r, e, q => by
    cases (show v = .bl b from r)
    cases e
    cases q
    exact ⟨_, Reads.bool b, fun a h => (nomatch h)⟩
  | .int i, p, v, u, r, e, q => by
    cases (show v = .int i from r)
    cases e
    obtain ⟨t, rfl⟩ := q
    exact ⟨_, Reads.int i t, fun a h => (nomatch h)⟩
  | .str x, p, v, u, r, e, q => by
    cases (show v = .str x from r)
    cases e
    obtain ⟨t, rfl⟩ := q
    exact ⟨_, Reads.str x t, fun a h => (nomatch h)⟩
  | .tup ds, p, v, u, r, e, q => by
    obtain ⟨a, vs, rfl, h2, h3⟩ := R.tup r
    cases q
    have e' : (match toPds ds with
      | some ps => some (PyData.tuple ps)
      | none => none) = some p := by simpa only [toPd] using e
    cases hd : toPds ds with
    | none =>
      rw [hd] at e'
      cases e'
    | some ps =>
      rw [hd] at e'
      cases e'
      obtain ⟨its, rv, ⟨o, ho, hc, n, hdt⟩, _⟩ := I.tuple h2
      obtain ⟨as, hr, hn⟩ := readsAll_ofD I R ds ps vs its h3 hd rv
      exact ⟨_, Reads.tuple ho hc hdt hr, hn⟩
  | .lst ds, p, v, u, r, e, q => by
    obtain ⟨a, vs, rfl, h2, h3⟩ := R.lst r
    cases q
    have e' : (match toPds ds with
      | some ps => some (PyData.list ps)
      | none => none) = some p := by simpa only [toPd] using e
    cases hd : toPds ds with
    | none =>
      rw [hd] at e'
      cases e'
    | some ps =>
      rw [hd] at e'
      cases e'
      obtain ⟨its, rv, ⟨o, n, ho, hc, _, hdt⟩, _⟩ := I.list (.inl (.inl h2))
      obtain ⟨as, hr, hn⟩ := readsAll_ofD I R ds ps vs its h3 hd rv
      refine ⟨_, Reads.list ho hc hdt hr, fun b hb => ?_⟩
      rcases List.mem_cons.mp hb with rfl | hb
      · rw [h2]
        exact fun z => nomatch z
      · exact hn b hb
  | .dct, p, v, u, r, e, q => by
    obtain ⟨a, rfl, h2⟩ := r
    cases e
    cases q
    have h3 := R.sub _ _ h2
    obtain ⟨_, _, vs, kv, o, es, ep, ho, hx, hdt, _, hp, _⟩ := I.hok a _ h3
    cases kv
    have he : es.toList = [] := by
      have := hp.length
      exact List.length_eq_zero_iff.mp this
    refine ⟨_, Reads.dict (kvs := []) (as := []) (bs := []) ho hx.1 hdt (by rw [he]; exact ReadsAll.nil) (by rw [he]; exact ReadsAll.nil), fun b hb => ?_⟩
    have hb' : b = a := by simpa using hb
    rw [hb', h3]
    exact fun z => nomatch z
  | .frz _, p, v, u, r, e, q => by cases e
  | .ty _, p, v, u, r, e, q => by cases e
  | .adr _, p, v, u, r, e, q => by cases e
  | .cls _, p, v, u, r, e, q => by cases e
  | .ref _, p, v, u, r, e, q => by cases e
  | .dcx, p, v, u, r, e, q => by cases e
  | .act _ _ _ _ _, p, v, u, r, e, q => by cases e
  | .exc _, p, v, u, r, e, q => by cases e
  | .clo _ _, p, v, u, r, e, q => by cases e
  | .ins _ _ _, p, v, u, r, e, q => by cases e
theorem readsAll_ofD (I : Inv X pins σ H s) (R : Rs X.K Γ S H) : ∀ (ds : List DV) (ps : List PyData) (vs : List V) (us : List Value), RVs X.K Γ ds vs → toPds ds = some ps → Vals vs us → ∃ as, ReadsAll s.heap us ps as ∧ ∀ a ∈ as, H a ≠ none
  | [], ps, vs, us, r, e, q => by
    cases (show vs = [] from r)
    cases e
    cases vals_nil q
    exact ⟨_, ReadsAll.nil, fun a h => (nomatch h)⟩
  | d :: ds, ps, vs, us, r, e, q => by
    obtain ⟨v, ws, rfl, r1, r2⟩ := r
    obtain ⟨u, ws', rfl, q1, q2⟩ := vals_cons q
    have e' : (match toPd d, toPds ds with
      | some p, some ps => some (p :: ps)
      | _, _ => none) = some ps := by simpa only [toPds] using e
    cases h1 : toPd d with
    | none =>
      rw [h1] at e'
      cases e'
    | some p =>
      cases h2 : toPds ds with
      | none =>
        rw [h1, h2] at e'
        cases e'
      | some ps' =>
        rw [h1, h2] at e'
        cases e'
        obtain ⟨as, g1, n1⟩ := reads_ofD I R d p v u r1 h1 q1
        obtain ⟨bs, g2, n2⟩ := readsAll_ofD I R ds ps' ws ws' r2 h2 q2
        exact ⟨_, ReadsAll.cons g1 g2, fun a h => (List.mem_append.mp h).elim (n1 a) (n2 a)⟩
end
end
end DL
/-! D layer, part 26: own classes: their things made, fields, methods. -/
namespace DL
open PySem PySem.Spec PyProof.Rows L2
/-! ### fields as data -/
def putD (f : Str) (d : DV) : List (Str × DV) → List (Str × DV)
  | [] => [(f, d)]
  | (g, x) :: r => if g = f then (g, d) :: r else (g, x) :: putD f d r
section
variable {K : PySem.W.Frag} {Γ : AG} {S : Store} {H : Hp}
theorem RFs.get : ∀ {fs : List (Str × DV)} {gs : List (Str × V)} {f : Str} {d : DV}, RFs K Γ fs gs → fs.lookup f = some d → ∃ v, gs.lookup f = some v ∧ RV K Γ d v
  | [], gs, f, d, r, e => by cases e
  | (g, x) :: fs, gs, f, d, r, e => by
    obtain ⟨v, hs, rfl, r1, r2⟩ := r
    rw [List.lookup_cons] at e ⊢
    by_cases h : (f == g) = true
    · rw [h] at e ⊢
      cases e
      exact ⟨v, rfl, r1⟩
    · rw [Bool.eq_false_iff.mpr h] at e ⊢
      exact RFs.get r2 e
theorem RFs.non : ∀ {fs : List (Str × DV)} {gs : List (Str × V)} {f : Str}, RFs K Γ fs gs → fs.lookup f = none → gs.lookup f = none
  | [], gs, f, r, e => by
    cases (show gs = [] from r)
    rfl
  | (g, x) :: fs, gs, f, r, e => by
    obtain ⟨v, hs, rfl, r1, r2⟩ := r
    rw [List.lookup_cons] at e ⊢
    by_cases h : (f == g) = true
    · rw [h] at e
      cases e
    · rw [Bool.eq_false_iff.mpr h] at e ⊢
      exact RFs.non r2 e
theorem RFs.put : ∀ {fs : List (Str × DV)} {gs : List (Str × V)} {f : Str} {d : DV} {v : V}, RFs K Γ fs gs → RV K Γ d v → RFs K Γ (putD f d fs) (putF f v gs)
  | [], gs, f, d, v, r, q => by
    cases (show gs = [] from r)
    exact ⟨v, [], rfl, q, rfl⟩
  | (g, x) :: fs, gs, f, d, v, r, q => by
    obtain ⟨u, hs, rfl, r1, r2⟩ := r
    unfold putD putF
    by_cases h : g = f
    · rw [if_pos h, if_pos h]
      exact ⟨v, hs, rfl, q, r2⟩
    · rw [if_neg h, if_neg h]
      exact ⟨u, _, rfl, r1, RFs.put r2 q⟩
theorem RFs.length : ∀ {fs : List (Str × DV)} {gs : List (Str × V)}, RFs K Γ fs gs → fs.length = gs.length
  | [], gs, r => by
    cases (show gs = [] from r)
    rfl
  | (g, x) :: fs, gs, r => by
    obtain ⟨u, hs, rfl, r1, r2⟩ := r
    rw [List.length_cons, List.length_cons, RFs.length r2]
end
/-! ### own defs run -/
/-- an own def at f that is called with n values -/
structure FunO (P : Program) (w : World) (K : PySem.W.Frag) (mg : Str → Option Value) (base : Heap) (cx : CXT) (k : Nat) (f : Addr) (n : Nat) (g : GX) : Prop where
  kp : PySem.W.keepIn K (.ref f) = true
  fi : PySem.W.fnIn K f = true
  run : FnR P w K mg base cx k f (spD K n g)
section
variable {X : Cx} {W : WX} {cx : CXT} {k n : Nat} {f : Addr} {g : GX} {pins : List (Addr × Obj)} {σ : L2.St} {H : Hp} {s : Shared} {A : Around}
end
/-- a method m of things of the classes Cs, all of them by the one def -/
structure MetO (P : Program) (w : World) (K : PySem.W.Frag) (mg : Str → Option Value) (base : Heap) (cx : CXT) (k : Nat) (Cs : List Str) (m : Str) (n : Nat) (g : GX) : Prop where
  ex : ∃ f, (∀ C ∈ Cs, Cls K (He.ga K C) ∧ Meth K (He.ga K C) m f) ∧ FunO P w K mg base cx k f n g
section
variable {X : Cx} {W : WX} {cx : CXT} {k n : Nat} {g : GX} {Cs : List Str} {m f : Str} {o e value : Expr} {es : List Expr} {pos pos' apos p : Pos} {mo mv : ME} {mas : MA}
end
/-! ### a thing is made -/
structure MakO (P : Program) (w : World) (K : PySem.W.Frag) (mg : Str → Option Value) (base : Heap) (cx : CXT) (k : Nat) (C : Str) (n : Nat) (g : GX) : Prop where
  mks : PySem.W.makesIn K (He.ga K C) = true
  kp : PySem.W.keepIn K (.ref (He.ga K C)) = true
  ex : ∃ f, PySem.W.findIn K (.ref (He.ga K C)) "__init__" = some (some (.ref f)) ∧ PySem.W.isFn K (.ref f) = true ∧ FunO P w K mg base cx k f n g
section
variable {X : Cx} {W : WX} {cx : CXT} {k n : Nat} {g : GX} {C : Str} {x : Str} {e : Expr} {es : List Expr} {pos p : Pos} {mas : MA}
end
end DL
/-! D layer, part 27: own classes: operators, len, bool, str, in, ==, subscripts, isinstance. -/
namespace DL
open PySem PySem.Spec PyProof.Rows L2
/-! ### types seen -/
/-! ### isinstance with own classes -/
structure IsiK (K : PySem.W.Frag) (Cs : List Str) (Ts : List String) (sb : Str → Str → Bool) : Prop where
  own : ∀ C ∈ Cs, Cls K (He.ga K C) ∧ PySem.W.findIn K (.ref (He.ga K C)) "__class__" = some (some (.builtin "object.__class__")) ∧ PySem.W.mroIn K (He.ga K C) (.type "object") = some true
  hn : PySem.W.specialIn K (.builtin "object.__class__") "__get__" = some (some (.builtin "getset_descriptor.__get__"))
  htk : PySem.W.takesIn K (.builtin "object.__class__") = some true
  f1 : ∀ C ∈ Cs, ∀ n ∈ Ts, PySem.W.kitOne K (.ref (He.ga K C)) (.type n) = some false
  f2 : ∀ t ∈ Ts, ∀ D ∈ Cs, PySem.W.kitOne K (.type t) (.ref (He.ga K D)) = some false
  f3 : ∀ C ∈ Cs, ∀ D ∈ Cs, PySem.W.kitOne K (.ref (He.ga K C)) (.ref (He.ga K D)) = some (sb C D)
section
variable {X : Cx} {Cs : List Str} {Ts : List String} {sb : Str → Str → Bool}
end
/-! ### own operators -/
section
variable {X : Cx} {pins : List (Addr × Obj)} {σ : L2.St} {H : Hp} {s : Shared} {Γ : AG} {S : Store}
end
section
open PySem.W
variable {prog : Program} {w : World} {M : Model} {A : Around} {E : Value → Shared → Prop} {s : Shared} {K : Frag} {x C L f : Addr} {h₀ : Heap} {m : Str → Option Value} {ox : Obj} {od : Option Obj} {nm T : String}
end
end DL
/-! D layer, part 28: own operators over data; exceptions without fields; class constants, classmethods. -/
namespace DL
open PySem PySem.Spec PyProof.Rows L2
/-! ### operators that may raise -/
structure BinO (P : Program) (w : World) (K : PySem.W.Frag) (mg : Str → Option Value) (base : Heap) (cx : CXT) (k : Nat) (Cs : List Str) (Ts : List String) (op : Operator) (g : GX) : Prop where
  ex : ∃ f, FunO P w K mg base cx k f 2 g ∧ PySem.W.isFn K (.ref f) = true ∧ ∀ C ∈ Cs, PySem.W.selfFirst K (He.ga K C) = true ∧ PySem.W.findIn K (.ref (He.ga K C)) (PySem.dunder op.info.2) = some (some (.ref f)) ∧
    PySem.W.findIn K (.ref (He.ga K C)) (dunderR op.info.2) = some none ∧
    ∀ T ∈ Ts, (∃ fo, PySem.W.findIn K (.type T) (PySem.dunder op.info.2) = some fo) ∧ (∃ ro, PySem.W.findIn K (.type T) (dunderR op.info.2) = some ro) ∧ PySem.W.subIn K (.type T) (.ref (He.ga K C)) = some false
section
variable {X : Cx} {W : WX} {cx : CXT} {k : Nat} {Cs : List Str} {Ts : List String} {op : Operator} {g : GX} {a b : Expr} {ma mb : ME} {pos : Pos}
end
/-! ### what raises nothing -/
structure DunO (P : Program) (w : World) (K : PySem.W.Frag) (mg : Str → Option Value) (base : Heap) (k : Nat) (Cs : List Str) (nm : Str) (n : Nat) (g : GX) : Prop where
  ex : ∃ f, FunO P w K mg base L2.CX0 k f n g ∧ PySem.W.isFn K (.ref f) = true ∧ ∀ C ∈ Cs, PySem.W.findIn K (.ref (He.ga K C)) nm = some (some (.ref f))
section
variable {X : Cx} {k n : Nat} {Cs : List Str} {Ts : List String} {nm : Str} {g : GX} {pins : List (Addr × Obj)} {σ : L2.St} {H : Hp} {s : Shared} {Γ : AG} {S : Store} {A : Around}
end
/-! ### try .. except X: where what is caught has no context -/
section
variable {X : Cx} {x : Str} {c : Value} {body suite : List Stmt} {b₀ : Stmt} {np pos pos' : Pos} {tb : WX → TS} {ts : Addr → Value → Option Addr → TS} {Wout : WX}
end
/-! ### exceptions without fields -/
section
variable {X : Cx} {W : WX} {cn : Str}
end
/-! ### class constants, classmethods -/
section
variable {X : Cx} {W : WX} {cx : CXT} {k n : Nat} {C f m : Str} {g : GX} {e : Expr} {es : List Expr} {p pos apos : Pos} {mas : MA}
end
end DL
/-! D layer, part 29: facts of own classes, by computing. -/
namespace DL
open PySem PySem.Spec PyProof.Rows L2 PySem.W
section
variable {P : Program} {w : World} {K : Frag} {mg : Str → Option Value} {base : Heap} {cx : CXT} {k n : Nat} {C m : Str} {g : GX}
end
end DL
/-! plain facts for the laws. -/
namespace DL
open PySem PySem.Spec PyProof.Rows L2
theorem intsV_len (l : List Int) : (intsV l).length = l.length := by unfold intsV; rw [List.length_map]
theorem intsV_get (l : List Int) (k : Nat) : (intsV l)[k]? = (l[k]?).map DV.int := by unfold intsV; rw [List.getElem?_map]
theorem ixN_of {n j : Nat} (hj : j < n) : ixN n (j : Int) = some j := by
  unfold ixN
  rw [if_pos (by omega), if_pos (by omega), Int.toNat_natCast]
theorem atI_ints {l : List Int} {k : Nat} (h : k < l.length) : atI (intsV l) (k : Int) = some (.int (l.getD k 0)) := by
  unfold atI
  rw [intsV_len, ixN_of h]
  show (intsV l)[k]? = _
  rw [intsV_get, List.getElem?_eq_getElem h, List.getD_eq_getElem?_getD, List.getElem?_eq_getElem h]
  rfl
theorem atI_at {α : Type} {l : List α} {k : Nat} : atI l (k : Int) = l[k]? := by
  by_cases h : k < l.length
  · unfold atI
    rw [ixN_of h]
    rfl
  · unfold atI ixN
    rw [if_pos (by omega), if_neg (by omega), List.getElem?_eq_none (by omega)]
    rfl
theorem intsV_set (l : List Int) (k : Nat) (x : Int) : (intsV l).set k (.int x) = intsV (l.set k x) := by unfold intsV; rw [List.map_set]
theorem intsV_app (l r : List Int) : intsV l ++ intsV r = intsV (l ++ r) := by unfold intsV; rw [List.map_append]
theorem intsD_ints : ∀ l : List Int, intsD (intsV l) = some l
  | [] => rfl
  | a :: l => by
    show (match intsD (intsV l) with
      | some is => some (a :: is)
      | none => none) = some (a :: l)
    rw [intsD_ints l]
theorem mulOk_s {i j : Int} (h1 : -(2 ^ 64) < i) (h2 : i < 2 ^ 64) : mulOk i j := .inl ⟨h1, h2⟩
theorem mulOk_r {i j : Int} (h1 : -(2 ^ 64) < j) (h2 : j < 2 ^ 64) : mulOk i j := .inr (.inl ⟨h1, h2⟩)
theorem lcGo_ind {t : Tg} {tt : MT} {te : ME} {δ : DEnv} {Q : MK (List DV)} (I : List DV → List DV → Store → Prop) (hn : ∀ acc S, I [] acc S → Q acc S)
    (hs : ∀ x xs acc S, I (x :: xs) acc S → (∀ acc' S', I xs acc' S' → lcGo t tt te δ xs acc' S' Q) → lcGo t tt te δ (x :: xs) acc S Q) : ∀ xs acc S, I xs acc S → lcGo t tt te δ xs acc S Q
  | [], acc, S, h => hn acc S h
  | x :: xs, acc, S, h => hs x xs acc S h fun acc' S' h' => lcGo_ind I hn hs xs acc' S' h'
theorem forGo_ind {g : MG} {tb : MS} {D : EndsD} (I : List DV → DEnv → Store → Prop) (hn : ∀ δ S, I [] δ S → D.nx δ S)
    (hs : ∀ x xs δ S, I (x :: xs) δ S → (∀ δ' S', I xs δ' S' → forGo g tb D xs δ' S') → forGo g tb D (x :: xs) δ S) : ∀ xs δ S, I xs δ S → forGo g tb D xs δ S
  | [], δ, S, h => hn δ S h
  | x :: xs, δ, S, h => hs x xs δ S h fun δ' S' h' => forGo_ind I hn hs xs δ' S' h'
theorem cut63 (ns : List Int) (h : ns.length ≤ 63) : cutD (intsV ns) none (some 63) = intsV ns := by
  unfold cutD
  have h1 : HT.sIx (intsV ns).length 0 none = 0 := rfl
  have h2 : HT.sIx (intsV ns).length (intsV ns).length (some 63) = (intsV ns).length := by
    rw [show (some (63 : Int)) = some ((63 : Nat) : Int) from rfl, HT.sIx_nat, intsV_len]
    omega
  rw [h1, h2, List.drop_zero, Nat.sub_zero, List.take_length]
/-- the deck: what is left of the cells; the cells, how many draws there were -/
def Dk (t : Nat) (R S : Store) : Prop := ∃ cells rests : List Int, S = some (.lst (intsV rests)) :: some (.lst [.lst (intsV cells), .int t, .ref 0]) :: R ∧ rests.length = cells.length ∧ 0 < cells.length
end DL
/-! plain facts for the laws: rows of ints as data. -/
namespace DL
open PySem PySem.Spec PyProof.Rows L2 PySem.W
def pI (a : List Int) : List PyData := a.map PyData.int
theorem toPs_ints : ∀ a : List Int, toPs (intsV a) = some (pI a)
  | [] => rfl
  | x :: a => by
    show toPs (.int x :: intsV a) = some (.int x :: pI a)
    simp only [toPs, toP, toPs_ints a]
theorem toP_tup {ds : List DV} {ps : List PyData} (h : toPs ds = some ps) : toP (.tup ds) = some (.tuple ps) := by simp only [toP, h]
theorem toP_lst {ds : List DV} {ps : List PyData} (h : toPs ds = some ps) : toP (.lst ds) = some (.list ps) := by simp only [toP, h]
theorem toPs_cons {d : DV} {ds : List DV} {p : PyData} {ps : List PyData} (h : toP d = some p) (g : toPs ds = some ps) : toPs (d :: ds) = some (p :: ps) := by simp only [toPs, h, g]
theorem toP_it (a : List Int) : toP (.tup (intsV a)) = some (.tuple (pI a)) := toP_tup (toPs_ints a)
theorem depthAll_ints : ∀ a : List Int, PyData.depthAll (pI a) = 0
  | [] => by simp [pI, PyData.depthAll]
  | x :: a => by
    show PyData.depthAll (.int x :: pI a) = 0
    simp [PyData.depthAll, PyData.depth, depthAll_ints a]
theorem alike_ints : ∀ a b : List Int, alikeAll (pI a) (pI b) = true
  | [], [] => by simp [pI, alikeAll]
  | [], y :: b => by simp [pI, alikeAll]
  | x :: a, [] => by simp [pI, alikeAll]
  | x :: a, y :: b => by
    show alikeAll (.int x :: pI a) (.int y :: pI b) = true
    rw [alikeAll, alike_ints a b, alike]
    rfl
theorem alike_it (a b : List Int) : alike (.tuple (pI a)) (.tuple (pI b)) = true := by rw [alike, alike_ints]
/-! ### a bag's rank -/
/-! ### sums of bags -/
def addI : List Int → List Int → List Int
  | x :: a, y :: b => (x + y) :: addI a b
  | _, _ => []
theorem addI_len : ∀ {a b : List Int}, a.length = b.length → (addI a b).length = a.length
  | [], [], _ => rfl
  | [], _ :: _, e => by simp at e
  | _ :: _, [], e => by simp at e
  | x :: a, y :: b, e => by
    have := addI_len (a := a) (b := b) (by simpa using e)
    simp [addI, this]
theorem addI_sum : ∀ {a b : List Int}, a.length = b.length → (addI a b).sum = a.sum + b.sum
  | [], [], _ => rfl
  | [], _ :: _, e => by simp at e
  | _ :: _, [], e => by simp at e
  | x :: a, y :: b, e => by
    have := addI_sum (a := a) (b := b) (by simpa using e)
    simp [addI, this]
    omega
end DL
/-! what the operators do, case by case. -/
namespace DL
open PySem PySem.Spec PyProof.Rows L2 PySem.W
def onSome (o : Option DV) (S : Store) (Q : MK DV) : Prop := match o with
  | some e => Q e S
  | none => False
variable {i j : Int} {xs ys ds : List DV} {x y : Str} {b c : Bool} {S : Store} {Q : MK DV} {q : Bool → Bool} {d : DV}
theorem onSome_s : onSome (some d) S Q = Q d S := id rfl
theorem fAdd_ii : fAdd (.int i) (.int j) S Q = Q (.int (i + j)) S := id rfl
theorem fAdd_tt : fAdd (.tup xs) (.tup ys) S Q = (xs.length + ys.length ≤ 16777216 ∧ Q (.tup (xs ++ ys)) S) := id rfl
theorem fAdd_ll : fAdd (.lst xs) (.lst ys) S Q = (xs.length + ys.length ≤ 16777216 ∧ Q (.lst (xs ++ ys)) S) := id rfl
theorem fAdd_ss : fAdd (.str x) (.str y) S Q = (x.length + y.length ≤ 16777216 ∧ Q (.str (x ++ y)) S) := id rfl
theorem fSub_ii : fSub (.int i) (.int j) S Q = Q (.int (i - j)) S := id rfl
theorem fMul_ii : fMul (.int i) (.int j) S Q = (mulOk i j ∧ Q (.int (i * j)) S) := id rfl
theorem fMul_li : fMul (.lst xs) (.int i) S Q = (-(2 ^ 63) ≤ i ∧ i < 2 ^ 63 ∧ xs.length * i.toNat ≤ 16777216 ∧ Q (.lst (List.replicate i.toNat xs).flatten) S) := id rfl
theorem fDiv_ii : fDiv (.int i) (.int j) S Q = (0 < j ∧ j.natAbs.log2 < 9000 ∧ Q (.int (i / j)) S) := id rfl
theorem fMod_ii : fMod (.int i) (.int j) S Q = (0 < j ∧ Q (.int (i % j)) S) := id rfl
theorem fPow_ii : fPow (.int i) (.int j) S Q = (0 ≤ j ∧ j ≤ 1000000 ∧ i.natAbs < 2 ^ 64 ∧ Q (.int (i ^ j.toNat)) S) := id rfl
theorem fNeg_i : fNeg (.int i) S Q = Q (.int (-i)) S := id rfl
theorem fLe_ii : fLe (.int i) (.int j) S Q = Q (.bl (decide (i ≤ j))) S := id rfl
theorem fGt_ii : fGt (.int i) (.int j) S Q = Q (.bl (decide (j < i))) S := id rfl
theorem fGe_ii : fGe (.int i) (.int j) S Q = Q (.bl (decide (j ≤ i))) S := id rfl
theorem fLt_ii : fLt (.int i) (.int j) S Q = Q (.bl (decide (i < j))) S := id rfl
theorem fEq_ii : fEq q (.int i) (.int j) S Q = Q (.bl (q (decide (i = j)))) S := id rfl
theorem fEq_ss : fEq q (.str x) (.str y) S Q = Q (.bl (q (decide (x = y)))) S := id rfl
theorem fEq_bb : fEq q (.bl b) (.bl c) S Q = Q (.bl (q (decide (b = c)))) S := id rfl
theorem gLen_t : gLen [.tup xs] S Q = Q (.int xs.length) S := id rfl
theorem gLen_l : gLen [.lst xs] S Q = Q (.int xs.length) S := id rfl
theorem gLen_f : gLen [.frz xs] S Q = Q (.int xs.length) S := id rfl
theorem gInt_i : gInt [.int i] S Q = Q (.int i) S := id rfl
theorem gInt_b : gInt [.bl b] S Q = Q (.int (if b then 1 else 0)) S := id rfl
theorem gBool_b : gBool [.bl b] S Q = Q (.bl b) S := id rfl
theorem gList_t : gList [.tup xs] S Q = Q (.lst xs) S := id rfl
theorem gList_l : gList [.lst xs] S Q = Q (.lst xs) S := id rfl
theorem gList_f : gList [.frz xs] S Q = Q (.lst xs) S := id rfl
theorem gTuple_t : gTuple [.tup xs] S Q = Q (.tup xs) S := id rfl
theorem gTuple_l : gTuple [.lst xs] S Q = Q (.tup xs) S := id rfl
theorem gSum_t {a : List Int} : gSum [.tup (intsV a)] S Q = Q (.int a.sum) S := by simp only [gSum, seqD, intsD_ints]
theorem gSum_l {a : List Int} : gSum [.lst (intsV a)] S Q = Q (.int a.sum) S := by simp only [gSum, seqD, intsD_ints]
theorem fIx_t : fIx (.tup xs) (.int i) S Q = onSome (atI xs i) S Q := id rfl
theorem fIx_l : fIx (.lst xs) (.int i) S Q = onSome (atI xs i) S Q := id rfl
theorem fIx_f : fIx (.frz xs) (.int i) S Q = onSome (atI xs i) S Q := id rfl
theorem fSl_t {lo hi : Option Int} : fSl (.tup ds) lo hi S Q = Q (.tup (cutD ds lo hi)) S := id rfl
theorem fSl_l {lo hi : Option Int} : fSl (.lst ds) lo hi S Q = Q (.lst (cutD ds lo hi)) S := id rfl
theorem fSl_f {lo hi : Option Int} : fSl (.frz ds) lo hi S Q = Q (.lst (cutD ds lo hi)) S := id rfl
theorem fRev_t : fRev (.tup ds) S Q = Q (.tup ds.reverse) S := id rfl
theorem fRev_l : fRev (.lst ds) S Q = Q (.lst ds.reverse) S := id rfl
def reprOk (p : PyData) : Prop := p.showable = true ∧ p.hasDict = false ∧ p.depth ≤ 60 ∧ p.shown.length ≤ 16777216
/-- repr of a datum -/
theorem gRepr_d {p : PyData} (h : toP d = some p) (k : reprOk p) (q : Q (.str p.shown) S) : gRepr [d] S Q := by
  show (match toP d with
    | some p => p.showable = true ∧ p.hasDict = false ∧ p.depth ≤ 60 ∧ p.shown.length ≤ 16777216 ∧ Q (.str p.shown) S
    | none => False)
  rw [h]
  exact ⟨k.1, k.2.1, k.2.2.1, k.2.2.2, q⟩
end DL
/-! what the combinators do, step by step. -/
namespace DL
open PySem PySem.Spec PyProof.Rows L2 PySem.W
def onInt (x : DV) (f : Int → Prop) : Prop := match x with
  | .int j => f j
  | _ => False
def onBl (x : DV) (f : Bool → Prop) : Prop := match x with
  | .bl j => f j
  | _ => False
def onSeq (x : DV) (f : List DV → Prop) : Prop := match x with
  | .tup ds => f ds
  | .lst ds => f ds
  | .frz ds => f ds
  | _ => False
def onZip (x y : DV) (f : List DV → Prop) : Prop := match x, y with
  | .tup xs, .tup ys => f (pairs xs ys)
  | .lst xs, .lst ys => f (pairs xs ys)
  | _, _ => False
def onEnum (x : DV) (f : List DV → Prop) : Prop := match x with
  | .tup ds => f (enum 0 ds)
  | .lst ds => f (enum 0 ds)
  | _ => False
theorem onInt_i {j : Int} {f : Int → Prop} : onInt (.int j) f = f j := id rfl
theorem onBl_b {j : Bool} {f : Bool → Prop} : onBl (.bl j) f = f j := id rfl
theorem onSeq_t {ds : List DV} {f : List DV → Prop} : onSeq (.tup ds) f = f ds := id rfl
theorem onSeq_l {ds : List DV} {f : List DV → Prop} : onSeq (.lst ds) f = f ds := id rfl
theorem onSeq_f {ds : List DV} {f : List DV → Prop} : onSeq (.frz ds) f = f ds := id rfl
theorem onZip_t {xs ys : List DV} {f : List DV → Prop} : onZip (.tup xs) (.tup ys) f = f (pairs xs ys) := id rfl
theorem onZip_l {xs ys : List DV} {f : List DV → Prop} : onZip (.lst xs) (.lst ys) f = f (pairs xs ys) := id rfl
theorem onEnum_t {ds : List DV} {f : List DV → Prop} : onEnum (.tup ds) f = f (enum 0 ds) := id rfl
theorem onEnum_l {ds : List DV} {f : List DV → Prop} : onEnum (.lst ds) f = f (enum 0 ds) := id rfl
def onT (b : Bool) (p q : Prop) : Prop := match b with
  | true => p
  | false => q
theorem onT_t {p q : Prop} : onT true p q = p := id rfl
theorem onT_f {p q : Prop} : onT false p q = q := id rfl
variable {a b c e f g : ME} {t u : MT} {δ : DEnv} {S : Store} {Q : MK DV} {QL : MK (List DV)} {QB : MK Bool} {E : MX} {D : EndsD} {m : GX} {i j l : Nat} {fn : GN} {as : MA} {sa sb : MS}
theorem mT_e : mT a δ S QB E = a δ S (fun x S1 => onBl x fun b => QB b S1) E := id rfl
theorem mAnd_e : mAnd t u δ S QB E = t δ S (fun b S1 => onT b (u δ S1 QB E) (QB false S1)) E := id rfl
theorem mOr_e : mOr t u δ S QB E = t δ S (fun b S1 => onT b (QB true S1) (u δ S1 QB E)) E := id rfl
theorem mIf_e : mIf t a b δ S Q E = t δ S (fun k S1 => onT k (a δ S1 Q E) (b δ S1 Q E)) E := id rfl
theorem mIfS_e : mIfS t sa sb D δ S = t δ S (fun k S1 => onT k (sa D δ S1) (sb D δ S1)) (fun x S1 => D.ex x δ S1) := id rfl
theorem mAndV_e : mAndV a b δ S Q E = a δ S (fun x S1 => onBl x fun k => onT k (b δ S1 Q E) (Q (.bl false) S1)) E := by
  unfold mAndV
  congr 1
  funext x S1
  cases x with
  | bl k => cases k <;> rfl
  | _ => rfl
theorem mOrV_e : mOrV a b δ S Q E = a δ S (fun x S1 => onBl x fun k => onT k (Q (.bl true) S1) (b δ S1 Q E)) E := by
  unfold mOrV
  congr 1
  funext x S1
  cases x with
  | bl k => cases k <;> rfl
  | _ => rfl
theorem mNotV_e : mNotV a δ S Q E = a δ S (fun x S1 => onBl x fun k => Q (.bl (!k)) S1) E := id rfl
theorem mCall_1 : mCall fn (mCons a mNil) δ S Q E = a δ S (fun x S1 => fn [x] S1 Q) E := id rfl
theorem mCall_2 : mCall fn (mCons a (mCons b mNil)) δ S Q E = a δ S (fun x S1 => b δ S1 (fun y S2 => fn [x, y] S2 Q) E) E := id rfl
theorem tr_and {n k : Nat} {p : Prop} (h : n = k) : (n = k ∧ p) = p := by
  rw [eq_true h, true_and]
theorem le_and {n k : Nat} {p : Prop} (h : n ≤ k) : (n ≤ k ∧ p) = p := by
  rw [eq_true h, true_and]
theorem mCallF_1 : mCallF 1 m (mCons a mNil) δ S Q E = a δ S (fun x S1 => m [x] S1 Q E) E := by
  show a δ S (fun x S1 => [x].length = 1 ∧ m [x] S1 Q E) E = _
  congr 1
  funext x S1
  exact tr_and rfl
theorem mCallF_2 : mCallF 2 m (mCons a (mCons b mNil)) δ S Q E = a δ S (fun x S1 => b δ S1 (fun y S2 => m [x, y] S2 Q E) E) E := by
  show a δ S (fun x S1 => b δ S1 (fun y S2 => [x, y].length = 2 ∧ m [x, y] S2 Q E) E) E = _
  congr 1
  funext x S1
  congr 1
  funext y S2
  exact tr_and rfl
theorem mCallF_3 : mCallF 3 m (mCons a (mCons b (mCons c mNil))) δ S Q E = a δ S (fun x S1 => b δ S1 (fun y S2 => c δ S2 (fun z S3 => m [x, y, z] S3 Q E) E) E) E := by
  show a δ S (fun x S1 => b δ S1 (fun y S2 => c δ S2 (fun z S3 => [x, y, z].length = 3 ∧ m [x, y, z] S3 Q E) E) E) E = _
  congr 1
  funext x S1
  congr 1
  funext y S2
  congr 1
  funext z S3
  exact tr_and rfl
theorem mCallF_4 : mCallF 4 m (mCons a (mCons b (mCons c (mCons e mNil)))) δ S Q E = a δ S (fun x S1 => b δ S1 (fun y S2 => c δ S2 (fun z S3 => e δ S3 (fun w S4 => m [x, y, z, w] S4 Q E) E) E) E) E := by
  show a δ S (fun x S1 => b δ S1 (fun y S2 => c δ S2 (fun z S3 => e δ S3 (fun w S4 => [x, y, z, w].length = 4 ∧ m [x, y, z, w] S4 Q E) E) E) E) E = _
  congr 1
  funext x S1
  congr 1
  funext y S2
  congr 1
  funext z S3
  congr 1
  funext w S4
  exact tr_and rfl
theorem mTup_0 : mTup mNil δ S Q E = Q (.tup []) S := le_and (Nat.zero_le _)
theorem mTup_1 : mTup (mCons a mNil) δ S Q E = a δ S (fun x S1 => Q (.tup [x]) S1) E := by
  show a δ S (fun x S1 => (1 : Nat) ≤ 16777216 ∧ Q (.tup [x]) S1) E = _
  congr 1
  funext x S1
  exact le_and (by omega)
theorem mTup_2 : mTup (mCons a (mCons b mNil)) δ S Q E = a δ S (fun x S1 => b δ S1 (fun y S2 => Q (.tup [x, y]) S2) E) E := by
  show a δ S (fun x S1 => b δ S1 (fun y S2 => (2 : Nat) ≤ 16777216 ∧ Q (.tup [x, y]) S2) E) E = _
  congr 1
  funext x S1
  congr 1
  funext y S2
  exact le_and (by omega)
theorem mTup_3 : mTup (mCons a (mCons b (mCons c mNil))) δ S Q E = a δ S (fun x S1 => b δ S1 (fun y S2 => c δ S2 (fun z S3 => Q (.tup [x, y, z]) S3) E) E) E := by
  show a δ S (fun x S1 => b δ S1 (fun y S2 => c δ S2 (fun z S3 => (3 : Nat) ≤ 16777216 ∧ Q (.tup [x, y, z]) S3) E) E) E = _
  congr 1
  funext x S1
  congr 1
  funext y S2
  congr 1
  funext z S3
  exact le_and (by omega)
theorem mLst_0 : mLst mNil δ S Q E = Q (.lst []) S := le_and (Nat.zero_le _)
theorem mLst_1 : mLst (mCons a mNil) δ S Q E = a δ S (fun x S1 => Q (.lst [x]) S1) E := by
  show a δ S (fun x S1 => (1 : Nat) ≤ 16777216 ∧ Q (.lst [x]) S1) E = _
  congr 1
  funext x S1
  exact le_and (by omega)
theorem mLst_2 : mLst (mCons a (mCons b mNil)) δ S Q E = a δ S (fun x S1 => b δ S1 (fun y S2 => Q (.lst [x, y]) S2) E) E := by
  show a δ S (fun x S1 => b δ S1 (fun y S2 => (2 : Nat) ≤ 16777216 ∧ Q (.lst [x, y]) S2) E) E = _
  congr 1
  funext x S1
  congr 1
  funext y S2
  exact le_and (by omega)
theorem mLst_3 : mLst (mCons a (mCons b (mCons c mNil))) δ S Q E = a δ S (fun x S1 => b δ S1 (fun y S2 => c δ S2 (fun z S3 => Q (.lst [x, y, z]) S3) E) E) E := by
  show a δ S (fun x S1 => b δ S1 (fun y S2 => c δ S2 (fun z S3 => (3 : Nat) ≤ 16777216 ∧ Q (.lst [x, y, z]) S3) E) E) E = _
  congr 1
  funext x S1
  congr 1
  funext y S2
  congr 1
  funext z S3
  exact le_and (by omega)
theorem mLst_4 : mLst (mCons a (mCons b (mCons c (mCons e mNil)))) δ S Q E = a δ S (fun x S1 => b δ S1 (fun y S2 => c δ S2 (fun z S3 => e δ S3 (fun w S4 => Q (.lst [x, y, z, w]) S4) E) E) E) E := by
  show a δ S (fun x S1 => b δ S1 (fun y S2 => c δ S2 (fun z S3 => e δ S3 (fun w S4 => (4 : Nat) ≤ 16777216 ∧ Q (.lst [x, y, z, w]) S4) E) E) E) E = _
  congr 1
  funext x S1
  congr 1
  funext y S2
  congr 1
  funext z S3
  congr 1
  funext w S4
  exact le_and (by omega)
theorem mPar2_e : mPar2 i j (mCons a (mCons b mNil)) D δ S = a δ S (fun x S1 => b δ S1 (fun y S2 => D.nx ((δ.set i (some x)).set j (some y)) S2) (fun x S1 => D.ex x δ S1)) (fun x S1 => D.ex x δ S1) := id rfl
theorem mPar3_e : mPar3 i j l (mCons a (mCons b (mCons c mNil))) D δ S = a δ S (fun x S1 => b δ S1 (fun y S2 => c δ S2 (fun z S3 => D.nx (((δ.set i (some x)).set j (some y)).set l (some z)) S3) (fun x S1 => D.ex x δ S1)) (fun x S1 => D.ex x δ S1)) (fun x S1 => D.ex x δ S1) := id rfl
theorem iR1_e : iR1 (mCons a mNil) δ S QL E = a δ S (fun x S1 => onInt x fun j => -(2 ^ 62) ≤ j ∧ j < 2 ^ 62 ∧ QL (rngD 0 j.toNat) S1) E := by
  show a δ S (fun x S1 => (match [x] with
    | [.int j] => -(2 ^ 62) ≤ j ∧ j < 2 ^ 62 ∧ QL (rngD 0 j.toNat) S1
    | _ => False)) E = _
  congr 1
  funext x S1
  cases x <;> rfl
theorem iZ_e : iZ (mCons a (mCons b mNil)) δ S QL E = a δ S (fun x S1 => b δ S1 (fun y S2 => onZip x y fun xs => QL xs S2) E) E := by
  show a δ S (fun x S1 => b δ S1 (fun y S2 => (match [x, y] with
    | [.tup xs, .tup ys] => QL (pairs xs ys) S2
    | [.lst xs, .lst ys] => QL (pairs xs ys) S2
    | _ => False)) E) E = _
  congr 1
  funext x S1
  congr 1
  funext y S2
  cases x <;> cases y <;> rfl
theorem iE_e : iE (mCons a mNil) δ S QL E = a δ S (fun x S1 => onEnum x fun xs => QL xs S1) E := by
  show a δ S (fun x S1 => (match [x] with
    | [.tup xs] => QL (enum 0 xs) S1
    | [.lst xs] => QL (enum 0 xs) S1
    | _ => False)) E = _
  congr 1
  funext x S1
  cases x <;> rfl
theorem iS_e : iS a δ S QL E = a δ S (fun x S1 => onSeq x fun xs => QL xs S1) E := id rfl
theorem slot_0 {x : Option DV} {r : DEnv} : slot (x :: r) 0 = x := id rfl
theorem slot_s {x : Option DV} {r : DEnv} {n : Nat} : slot (x :: r) (n + 1) = slot r n := id rfl
theorem mVar_e : mVar i δ S Q E = onSome (slot δ i) S Q := id rfl
theorem lcGo_n {t : Tg} {tt : MT} {te : ME} {acc : List DV} : lcGo t tt te δ [] acc S QL = QL acc S := id rfl
def onEnv (o : Option DEnv) (f : DEnv → Prop) : Prop := match o with
  | some d => f d
  | none => False
theorem onEnv_s {d : DEnv} {f : DEnv → Prop} : onEnv (some d) f = f d := id rfl
theorem lcGo_c {t : Tg} {tt : MT} {te : ME} {x : DV} {xs acc : List DV} : lcGo t tt te δ (x :: xs) acc S QL = onEnv (bindT t x δ) fun δ1 => tt δ1 S (fun b S1 => onT b (te δ1 S1 (fun y S2 => acc.length < 16777216 ∧ lcGo t tt te δ xs (acc ++ [y]) S2 QL) noE) (lcGo t tt te δ xs acc S1 QL)) noE := id rfl
theorem forGo_c {g : MG} {tb : MS} {x : DV} {xs : List DV} : forGo g tb D (x :: xs) δ S = g x δ S fun δ1 S1 => tb { D with nx := forGo g tb D xs, ct := forGo g tb D xs, bk := D.nx } δ1 S1 := id rfl
theorem gTg_e {t : Tg} {d : DV} {R : DEnv → Store → Prop} : gTg t d δ S R = onEnv (bindT t d δ) fun δ1 => R δ1 S := id rfl
theorem bindT_nm {d : DV} : bindT (.nm i) d δ = some (δ.set i (some d)) := by simp only [bindT]
theorem bindT_1 {t1 : Tg} {d1 : DV} : bindT (.tp [t1]) (.tup [d1]) δ = bindT t1 d1 δ := by
  simp only [bindT, bindTs]
  cases bindT t1 d1 δ <;> rfl
theorem bindT_2 {n k : Nat} {d1 d2 : DV} : bindT (.tp [.nm n, .nm k]) (.tup [d1, d2]) δ = some ((δ.set n (some d1)).set k (some d2)) := by simp only [bindT, bindTs]
theorem bindT_3 {n k l : Nat} {d1 d2 d3 : DV} : bindT (.tp [.nm n, .nm k, .nm l]) (.tup [d1, d2, d3]) δ = some (((δ.set n (some d1)).set k (some d2)).set l (some d3)) := by simp only [bindT, bindTs]
theorem mNext_e : mNext D δ S = D.nx δ S := id rfl
theorem mSeq_e : mSeq sa sb D δ S = sa { D with nx := sb D } δ S := id rfl
theorem mExpr_e : mExpr a D δ S = a δ S (fun _ S1 => D.nx δ S1) (fun x S1 => D.ex x δ S1) := id rfl
theorem mRet_e : mRet a D δ S = a δ S D.rt (fun x S1 => D.ex x δ S1) := id rfl
theorem mRetN_e : mRetN D δ S = D.rt .non S := id rfl
theorem mBreak_e : mBreak D δ S = D.bk δ S := id rfl
theorem mCont_e : mCont D δ S = D.ct δ S := id rfl
theorem mSet_e : mSet i a D δ S = a δ S (fun d S1 => D.nx (δ.set i (some d)) S1) (fun x S1 => D.ex x δ S1) := id rfl
theorem mAsg_e {g : MG} : mAsg a g D δ S = a δ S (fun d S1 => g d δ S1 D.nx) (fun x S1 => D.ex x δ S1) := id rfl
theorem mC_e {d : DV} : mC d δ S Q E = Q d S := id rfl
theorem mOp_e {g : G2} : mOp g a b δ S Q E = a δ S (fun x S1 => b δ S1 (fun y S2 => g x y S2 Q) E) E := id rfl
theorem mUn_e {g : G1} : mUn g a δ S Q E = a δ S (fun x S1 => g x S1 Q) E := id rfl
theorem mNot_e : mNot t δ S QB E = t δ S (fun c S1 => QB (!c) S1) E := id rfl
theorem mFor_e {it : MI} {g : MG} : mFor it g sa D δ S = it δ S (fun xs S1 => forGo g sa D xs δ S1) (fun x S1 => D.ex x δ S1) := id rfl
theorem mLc_e {it : MI} {tg : Tg} {vs : List Nat} : mLc it tg t a vs δ S Q E = it δ S (fun xs S1 => lcGo tg t a (wipeD δ vs) xs [] S1 (fun ys S2 => Q (.lst ys) S2)) E := id rfl
theorem mLcO_e {it : MI} {tg : Tg} {vs : List Nat} : mLcO it tg t a vs δ S Q E = it δ S (fun xs S1 => lcGo tg t a (wipeD δ vs) xs [] S1 (fun ys S2 => Q (.ref S2.length) (S2 ++ [some (.lst ys)]))) E := id rfl
theorem mYes_e : mYes δ S QB E = QB true S := id rfl
theorem mBody_e {ds : List DV} {n : Nat} : mBody n sa ds S Q E = sa { nx := fun _ S' => Q .non S', rt := Q, bk := fun _ _ => False, ct := fun _ _ => False, ex := fun x _ S' => E x S' } (startD n ds) S := id rfl
theorem startD_e {ds : List DV} {n : Nat} : startD n ds = ds.map some ++ List.replicate (n - ds.length) none := id rfl
abbrev MOI := DEnv → Store → MK (Option Int) → MX → Prop
theorem mPN_e {QI : MK (Option Int)} : mPN δ S QI E = QI none S := id rfl
theorem mPS_e {QI : MK (Option Int)} : mPS a δ S QI E = a δ S (fun x S1 => onInt x fun i => QI (some i) S1) E := id rfl
theorem mSl_e {g : GS} {lo hi : MP} : mSl g a lo hi δ S Q E = a δ S (fun x S1 => lo δ S1 (fun l S2 => hi δ S2 (fun h S3 => g x l h S3 Q) E) E) E := id rfl
theorem wipeD_n : wipeD δ [] = δ := id rfl
theorem wipeD_c {v : Nat} {vs : List Nat} : wipeD δ (v :: vs) = (wipeD δ vs).set v none := id rfl
theorem mDct_e : mDct δ S Q E = Q .dct S := id rfl
end DL
/-! how long a datum's text is. -/
namespace DL
open PySem PySem.Spec PyProof.Rows L2 PySem.W
theorem textFrom_max : ∀ (ts : List Str) (k : Nat) (acc : Str), (textFrom k acc ts).length ≤ acc.length + piled ts
  | [], k, acc => by show acc.length ≤ _; exact Nat.le_add_right _ _
  | t :: r, k, acc => by
    have ih := textFrom_max r (k + 1) (acc ++ (if k > 0 then ", " else "" : String) ++ t)
    have e : (textFrom k acc (t :: r)).length = (textFrom (k + 1) (acc ++ (if k > 0 then ", " else "" : String) ++ t) r).length := rfl
    rw [e]
    have h1 : (acc ++ (if k > 0 then ", " else "" : String) ++ t).length ≤ acc.length + 2 + t.length := by
      rw [Str.length_append, Str.length_append]
      have : (Str.ofString (if k > 0 then ", " else "" : String)).length ≤ 2 := by
        split <;> decide +kernel
      omega
    have h2 : piled (t :: r) = t.length + 2 + piled r := by simp [piled]
    omega
theorem listText_max (ts : List Str) : (listText ts).length ≤ piled ts + 2 := by
  unfold listText
  rw [Str.length_append]
  have h := textFrom_max ts 0 "["
  have h1 : (Str.ofString "[").length = 1 := by decide +kernel
  have h2 : (Str.ofString "]").length = 1 := by decide +kernel
  omega
theorem tupleText_max (ts : List Str) : (tupleText ts).length ≤ piled ts + 3 := by
  unfold tupleText
  rw [Str.length_append, Str.length_append]
  have h1 : (Str.ofString "(").length = 1 := by decide +kernel
  have h2 : (Str.ofString (if ts.length == 1 then ",)" else ")" : String)).length ≤ 2 := by
    split <;> decide +kernel
  have h3 : (Str.join ", " ts).length ≤ piled ts := by
    by_cases h : ts = []
    · subst h
      decide +kernel
    · have := join_length_add ts h
      omega
  omega
mutual
/-- ints within bounds, no text, no dict -/
def bndP : PyData → Bool
  | .none => true
  | .bool _ => true
  | .int i => decide (i.natAbs < 10 ^ 24)
  | .list xs => bndAll xs
  | .tuple xs => bndAll xs
  | .str x => x.cps.toList.all fun c => decide (c < 16 ^ 8)
  | _ => false
def bndAll : List PyData → Bool
  | [] => true
  | x :: xs => bndP x && bndAll xs
end
mutual
def szP : PyData → Nat
  | .list xs => szAll xs + 3
  | .tuple xs => szAll xs + 3
  | .str x => 10 * x.length + 2
  | _ => 25
def szAll : List PyData → Nat
  | [] => 0
  | x :: xs => szP x + 2 + szAll xs
end
theorem str_len (s : String) : (Str.ofString s).length = s.length := by
  exact PySem.ofString_length s
mutual
theorem shown_max : ∀ p : PyData, bndP p = true → p.shown.length ≤ szP p ∧ p.showable = true ∧ p.hasDict = false
  | .none, _ => ⟨by decide +kernel, by simp only [PyData.showable], by simp only [PyData.hasDict]⟩
  | .bool b, _ => ⟨by cases b <;> decide +kernel, by simp only [PyData.showable], by simp only [PyData.hasDict]⟩
  | .int i, h => by
    have hb : i.natAbs < 10 ^ 24 := by simpa [bndP] using h
    refine ⟨?_, ?_, by simp only [PyData.hasDict]⟩
    · have := int_text_length_le10 (k := 24) (by decide) hb
      simp only [PyData.shown, szP]
      rw [str_len]
      exact this
    · simp only [PyData.showable, decide_eq_true_eq]
      have : i.natAbs < 2 ^ 1919 := Nat.lt_of_lt_of_le hb (by decide +kernel)
      by_cases h0 : i.natAbs = 0
      · rw [h0]
        decide +kernel
      · have := (Nat.log2_lt h0).mpr this
        omega
  | .str x, h => by
    have h' : ∀ c ∈ x.cps.toList, c < 16 ^ 8 := fun c hc => of_decide_eq_true (List.all_eq_true.mp (show (x.cps.toList.all fun c => decide (c < 16 ^ 8)) = true from h) c hc)
    refine ⟨?_, by simp only [PyData.showable], by simp only [PyData.hasDict]⟩
    simp only [PyData.shown, szP]
    exact StrLaws.reprText_len x h'
  | .dict _, h => by simp [bndP] at h
  | .list xs, h => by
    obtain ⟨h1, h2, h3⟩ := shownAll_max xs (by simpa [bndP] using h)
    refine ⟨?_, by simpa only [PyData.showable] using h2, by simpa only [PyData.hasDict] using h3⟩
    simp only [PyData.shown, szP]
    have := listText_max (PyData.shownAll xs)
    omega
  | .tuple xs, h => by
    obtain ⟨h1, h2, h3⟩ := shownAll_max xs (by simpa [bndP] using h)
    refine ⟨?_, by simpa only [PyData.showable] using h2, by simpa only [PyData.hasDict] using h3⟩
    simp only [PyData.shown, szP]
    have := tupleText_max (PyData.shownAll xs)
    omega
theorem shownAll_max : ∀ ps : List PyData, bndAll ps = true → piled (PyData.shownAll ps) ≤ szAll ps ∧ PyData.showableAll ps = true ∧ PyData.hasDictAll ps = false
  | [], _ => ⟨by simp [PyData.shownAll, piled], by simp only [PyData.showableAll], by simp only [PyData.hasDictAll]⟩
  | x :: xs, h => by
    have h' : bndP x = true ∧ bndAll xs = true := by simpa [bndAll] using h
    obtain ⟨h1, h2, h3⟩ := shown_max x h'.1
    obtain ⟨g1, g2, g3⟩ := shownAll_max xs h'.2
    refine ⟨?_, by simp only [PyData.showableAll, h2, g2, Bool.and_self], by simp only [PyData.hasDictAll, h3, g3, Bool.or_self]⟩
    simp only [PyData.shownAll, piled_cons, szAll]
    omega
end
theorem reprOk_of {p : PyData} (h : bndP p = true) (hd : p.depth ≤ 60) (hs : szP p ≤ 16777216) : reprOk p := by
  obtain ⟨h1, h2, h3⟩ := shown_max p h
  exact ⟨h2, h3, hd, Nat.le_trans h1 hs⟩
theorem bndAll_ints {a : List Int} (h : ∀ x ∈ a, x.natAbs < 10 ^ 24) : bndAll (pI a) = true := by
  induction a with
  | nil => simp [pI, bndAll]
  | cons x a ih =>
    show bndAll (.int x :: pI a) = true
    rw [bndAll, ih fun y hy => h y (List.mem_cons_of_mem _ hy), bndP, decide_eq_true (h x List.mem_cons_self)]
    rfl
theorem szAll_ints : ∀ a : List Int, szAll (pI a) = 27 * a.length
  | [] => by simp [pI, szAll]
  | x :: a => by
    show szAll (.int x :: pI a) = _
    simp only [szAll, szAll_ints a, szP, List.length_cons]
    omega
end DL
/-! comprehensions that leave the store; loops over encoded lists. -/
namespace DL
open PySem PySem.Spec PyProof.Rows L2 PySem.W
theorem lc_fm {α : Type} {t : Tg} {tt : MT} {te : ME} {δ : DEnv} {S : Store} {Q : MK (List DV)} (enc f : α → DV) (p : α → Bool) : ∀ (xs : List α) (acc : List DV), acc.length + xs.length < 16777216 →
    (∀ x ∈ xs, ∃ δ1, bindT t (enc x) δ = some δ1 ∧ (∀ Qb : MK Bool, Qb (p x) S → tt δ1 S Qb noE) ∧ (p x = true → ∀ Qc : MK DV, Qc (f x) S → te δ1 S Qc noE)) →
    Q (acc ++ (xs.filter p).map f) S → lcGo t tt te δ (xs.map enc) acc S Q
  | [], acc, _, _, q => by
    show Q acc S
    simpa using q
  | x :: xs, acc, hl, h, q => by
    obtain ⟨δ1, h1, h2, h3⟩ := h x List.mem_cons_self
    rw [List.length_cons] at hl
    show (match bindT t (enc x) δ with
      | some δ1 => tt δ1 S (fun b S1 => match b with
        | true => te δ1 S1 (fun y S2 => acc.length < 16777216 ∧ lcGo t tt te δ (xs.map enc) (acc ++ [y]) S2 Q) noE
        | false => lcGo t tt te δ (xs.map enc) acc S1 Q) noE
      | none => False)
    rw [h1]
    refine h2 _ ?_
    cases hp : p x with
    | true =>
      refine h3 hp _ ⟨by omega, lc_fm enc f p xs _ (by simp; omega) (fun y hy => h y (List.mem_cons_of_mem _ hy)) ?_⟩
      rw [List.filter_cons, if_pos hp] at q
      simpa using q
    | false =>
      refine lc_fm enc f p xs _ (by omega) (fun y hy => h y (List.mem_cons_of_mem _ hy)) ?_
      rw [List.filter_cons, if_neg (by rw [hp]; exact Bool.false_ne_true)] at q
      exact q
/-- without a condition -/
theorem lc_m {α : Type} {t : Tg} {te : ME} {δ : DEnv} {S : Store} {Q : MK (List DV)} (enc f : α → DV) (xs : List α) (hl : xs.length < 16777216)
    (h : ∀ x ∈ xs, ∃ δ1, bindT t (enc x) δ = some δ1 ∧ ∀ Qc : MK DV, Qc (f x) S → te δ1 S Qc noE) (q : Q (xs.map f) S) : lcGo t mYes te δ (xs.map enc) [] S Q :=
  lc_fm enc f (fun _ => true) xs [] (by simpa using hl) (fun x hx => by
    obtain ⟨δ1, h1, h2⟩ := h x hx
    exact ⟨δ1, h1, fun Qb qb => qb, fun _ => h2⟩) (by rw [List.filter_eq_self.mpr fun _ _ => rfl]; simpa using q)
theorem rngD_eq (lo : Int) (n : Nat) : rngD lo n = (List.range n).map fun (k : Nat) => DV.int (lo + k) := by
  refine List.ext_getElem? fun i => ?_
  by_cases h : i < n
  · rw [rngD_get lo n i h, List.getElem?_map, List.getElem?_range h]
    rfl
  · rw [List.getElem?_eq_none (by rw [rngD_len]; omega), List.getElem?_eq_none (by simp; omega)]
theorem rng0_eq (n : Nat) : rngD 0 n = (List.range n).map fun (k : Nat) => DV.int k := by
  rw [rngD_eq]
  congr 1
  funext k
  rw [Int.zero_add]
theorem pairs_ints : ∀ a b : List Int, pairs (intsV a) (intsV b) = (a.zip b).map fun p => DV.tup [.int p.1, .int p.2]
  | [], b => by cases b <;> rfl
  | x :: a, [] => rfl
  | x :: a, y :: b => by
    show DV.tup [.int x, .int y] :: pairs (intsV a) (intsV b) = _
    rw [pairs_ints a b]
    rfl
end DL
/-! more of what operators do, case by case. -/
namespace DL
open PySem PySem.Spec PyProof.Rows L2 PySem.W
variable {i j : Int} {xs ys ds : List DV} {x y : Str} {b c : Bool} {S : Store} {Q : MK DV} {q : Bool → Bool} {d : DV}
theorem gIsi_of {t n : String} {k : Bool} (h : tyD S d = some t) (h2 : kitB t n = some k) : gIsi [d, .ty n] S Q = Q (.bl k) S := by
  show (match tyD S d with
    | some t => (match kitB t n with
      | some b => Q (.bl b) S
      | none => False)
    | none => False) = _
  rw [h]
  show (match kitB t n with
      | some b => Q (.bl b) S
      | none => False) = _
  rw [h2]
variable {δ : DEnv} {E : MX} {u v w : ME} {g g' : G2}
theorem mChain_e : mChain g g' u v w δ S Q E = u δ S (fun x S1 => v δ S1 (fun y S2 => g x y S2 (fun z S3 => onBl z fun k => onT k (w δ S3 (fun w S4 => g' y w S4 Q) E) (Q (.bl false) S3))) E) E := by
  unfold mChain
  congr 1
  funext x S1
  congr 1
  funext y S2
  congr 1
  funext z S3
  cases z with
  | bl k => cases k <;> rfl
  | _ => rfl
theorem gMax2_ii : gMax2 [.int i, .int j] S Q = Q (.int (if j > i then j else i)) S := id rfl
theorem fMulO_li {k : Int} : fMulO (.lst xs) (.int k) S Q = (-(2 ^ 63) ≤ k ∧ k < 2 ^ 63 ∧ xs.length * k.toNat ≤ 16777216 ∧ Q (.ref S.length) (S ++ [some (.lst (List.replicate k.toNat xs).flatten)])) := id rfl
theorem fMulT_e {k : Int} : fMulT (.tup xs) (.int k) S Q = (xs ≠ [] ∧ 0 ≤ k ∧ k ≤ 1000 ∧ xs.length ≤ 1000 ∧ Q (.tup (List.replicate k.toNat xs).flatten) S) := id rfl
variable {as bs : ME} {QL : MK (List DV)}
theorem iR2_e : iR2 (mCons as (mCons bs mNil)) δ S QL E = as δ S (fun x S1 => bs δ S1 (fun y S2 => onInt x fun i => onInt y fun j => (-(2 ^ 62) ≤ i ∧ i < 2 ^ 62 ∧ -(2 ^ 62) ≤ j ∧ j < 2 ^ 62) ∧ QL (rngD i (j - i).toNat) S2) E) E := by
  show as δ S (fun x S1 => bs δ S1 (fun y S2 => (match [x, y] with
    | [.int i, .int j] => (-(2 ^ 62) ≤ i ∧ i < 2 ^ 62 ∧ -(2 ^ 62) ≤ j ∧ j < 2 ^ 62) ∧ QL (rngD i (j - i).toNat) S2
    | _ => False)) E) E = _
  congr 1
  funext x S1
  congr 1
  funext y S2
  cases x <;> cases y <;> rfl
theorem mLstO_0 {S0 : Store} : mLstO mNil δ S0 Q E = Q (DV.ref (List.length S0)) (S0 ++ [some (DO.lst [])]) := le_and (Nat.zero_le _)
theorem mLstO_1 {u0 : ME} {S0 : Store} : mLstO (mCons u0 mNil) δ S0 Q E = u0 δ S0 (fun x0 S1 => Q (.ref S1.length) (S1 ++ [some (.lst [x0])])) E := by
  show u0 δ S0 (fun x0 S1 => (1 : Nat) ≤ 16777216 ∧ Q (.ref S1.length) (S1 ++ [some (.lst [x0])])) E = _
  congr 1
  funext x0 S1
  exact le_and (by omega)
theorem mLstO_2 {u0 u1 : ME} {S0 : Store} : mLstO (mCons u0 (mCons u1 mNil)) δ S0 Q E = u0 δ S0 (fun x0 S1 => u1 δ S1 (fun x1 S2 => Q (.ref S2.length) (S2 ++ [some (.lst [x0, x1])])) E) E := by
  show u0 δ S0 (fun x0 S1 => u1 δ S1 (fun x1 S2 => (2 : Nat) ≤ 16777216 ∧ Q (.ref S2.length) (S2 ++ [some (.lst [x0, x1])])) E) E = _
  congr 1
  funext x0 S1
  congr 1
  funext x1 S2
  exact le_and (by omega)
theorem mLstO_3 {u0 u1 u2 : ME} {S0 : Store} : mLstO (mCons u0 (mCons u1 (mCons u2 mNil))) δ S0 Q E = u0 δ S0 (fun x0 S1 => u1 δ S1 (fun x1 S2 => u2 δ S2 (fun x2 S3 => Q (.ref S3.length) (S3 ++ [some (.lst [x0, x1, x2])])) E) E) E := by
  show u0 δ S0 (fun x0 S1 => u1 δ S1 (fun x1 S2 => u2 δ S2 (fun x2 S3 => (3 : Nat) ≤ 16777216 ∧ Q (.ref S3.length) (S3 ++ [some (.lst [x0, x1, x2])])) E) E) E = _
  congr 1
  funext x0 S1
  congr 1
  funext x1 S2
  congr 1
  funext x2 S3
  exact le_and (by omega)
theorem mLstO_4 {u0 u1 u2 u3 : ME} {S0 : Store} : mLstO (mCons u0 (mCons u1 (mCons u2 (mCons u3 mNil)))) δ S0 Q E = u0 δ S0 (fun x0 S1 => u1 δ S1 (fun x1 S2 => u2 δ S2 (fun x2 S3 => u3 δ S3 (fun x3 S4 => Q (.ref S4.length) (S4 ++ [some (.lst [x0, x1, x2, x3])])) E) E) E) E := by
  show u0 δ S0 (fun x0 S1 => u1 δ S1 (fun x1 S2 => u2 δ S2 (fun x2 S3 => u3 δ S3 (fun x3 S4 => (4 : Nat) ≤ 16777216 ∧ Q (.ref S4.length) (S4 ++ [some (.lst [x0, x1, x2, x3])])) E) E) E) E = _
  congr 1
  funext x0 S1
  congr 1
  funext x1 S2
  congr 1
  funext x2 S3
  congr 1
  funext x3 S4
  exact le_and (by omega)
theorem mTup_4 {u0 u1 u2 u3 : ME} {S0 : Store} : mTup (mCons u0 (mCons u1 (mCons u2 (mCons u3 mNil)))) δ S0 Q E = u0 δ S0 (fun x0 S1 => u1 δ S1 (fun x1 S2 => u2 δ S2 (fun x2 S3 => u3 δ S3 (fun x3 S4 => Q (.tup [x0, x1, x2, x3]) S4) E) E) E) E := by
  show u0 δ S0 (fun x0 S1 => u1 δ S1 (fun x1 S2 => u2 δ S2 (fun x2 S3 => u3 δ S3 (fun x3 S4 => (4 : Nat) ≤ 16777216 ∧ Q (.tup [x0, x1, x2, x3]) S4) E) E) E) E = _
  congr 1
  funext x0 S1
  congr 1
  funext x1 S2
  congr 1
  funext x2 S3
  congr 1
  funext x3 S4
  exact le_and (by omega)
theorem mLstO_5 {u0 u1 u2 u3 u4 : ME} {S0 : Store} : mLstO (mCons u0 (mCons u1 (mCons u2 (mCons u3 (mCons u4 mNil))))) δ S0 Q E = u0 δ S0 (fun x0 S1 => u1 δ S1 (fun x1 S2 => u2 δ S2 (fun x2 S3 => u3 δ S3 (fun x3 S4 => u4 δ S4 (fun x4 S5 => Q (.ref S5.length) (S5 ++ [some (.lst [x0, x1, x2, x3, x4])])) E) E) E) E) E := by
  show u0 δ S0 (fun x0 S1 => u1 δ S1 (fun x1 S2 => u2 δ S2 (fun x2 S3 => u3 δ S3 (fun x3 S4 => u4 δ S4 (fun x4 S5 => (5 : Nat) ≤ 16777216 ∧ Q (.ref S5.length) (S5 ++ [some (.lst [x0, x1, x2, x3, x4])])) E) E) E) E) E = _
  congr 1
  funext x0 S1
  congr 1
  funext x1 S2
  congr 1
  funext x2 S3
  congr 1
  funext x3 S4
  congr 1
  funext x4 S5
  exact le_and (by omega)
theorem mLst_5 {u0 u1 u2 u3 u4 : ME} {S0 : Store} : mLst (mCons u0 (mCons u1 (mCons u2 (mCons u3 (mCons u4 mNil))))) δ S0 Q E = u0 δ S0 (fun x0 S1 => u1 δ S1 (fun x1 S2 => u2 δ S2 (fun x2 S3 => u3 δ S3 (fun x3 S4 => u4 δ S4 (fun x4 S5 => Q (.lst [x0, x1, x2, x3, x4]) S5) E) E) E) E) E := by
  show u0 δ S0 (fun x0 S1 => u1 δ S1 (fun x1 S2 => u2 δ S2 (fun x2 S3 => u3 δ S3 (fun x3 S4 => u4 δ S4 (fun x4 S5 => (5 : Nat) ≤ 16777216 ∧ Q (.lst [x0, x1, x2, x3, x4]) S5) E) E) E) E) E = _
  congr 1
  funext x0 S1
  congr 1
  funext x1 S2
  congr 1
  funext x2 S3
  congr 1
  funext x3 S4
  congr 1
  funext x4 S5
  exact le_and (by omega)
theorem mTup_5 {u0 u1 u2 u3 u4 : ME} {S0 : Store} : mTup (mCons u0 (mCons u1 (mCons u2 (mCons u3 (mCons u4 mNil))))) δ S0 Q E = u0 δ S0 (fun x0 S1 => u1 δ S1 (fun x1 S2 => u2 δ S2 (fun x2 S3 => u3 δ S3 (fun x3 S4 => u4 δ S4 (fun x4 S5 => Q (.tup [x0, x1, x2, x3, x4]) S5) E) E) E) E) E := by
  show u0 δ S0 (fun x0 S1 => u1 δ S1 (fun x1 S2 => u2 δ S2 (fun x2 S3 => u3 δ S3 (fun x3 S4 => u4 δ S4 (fun x4 S5 => (5 : Nat) ≤ 16777216 ∧ Q (.tup [x0, x1, x2, x3, x4]) S5) E) E) E) E) E = _
  congr 1
  funext x0 S1
  congr 1
  funext x1 S2
  congr 1
  funext x2 S3
  congr 1
  funext x3 S4
  congr 1
  funext x4 S5
  exact le_and (by omega)
theorem mLstO_6 {u0 u1 u2 u3 u4 u5 : ME} {S0 : Store} : mLstO (mCons u0 (mCons u1 (mCons u2 (mCons u3 (mCons u4 (mCons u5 mNil)))))) δ S0 Q E = u0 δ S0 (fun x0 S1 => u1 δ S1 (fun x1 S2 => u2 δ S2 (fun x2 S3 => u3 δ S3 (fun x3 S4 => u4 δ S4 (fun x4 S5 => u5 δ S5 (fun x5 S6 => Q (.ref S6.length) (S6 ++ [some (.lst [x0, x1, x2, x3, x4, x5])])) E) E) E) E) E) E := by
  show u0 δ S0 (fun x0 S1 => u1 δ S1 (fun x1 S2 => u2 δ S2 (fun x2 S3 => u3 δ S3 (fun x3 S4 => u4 δ S4 (fun x4 S5 => u5 δ S5 (fun x5 S6 => (6 : Nat) ≤ 16777216 ∧ Q (.ref S6.length) (S6 ++ [some (.lst [x0, x1, x2, x3, x4, x5])])) E) E) E) E) E) E = _
  congr 1
  funext x0 S1
  congr 1
  funext x1 S2
  congr 1
  funext x2 S3
  congr 1
  funext x3 S4
  congr 1
  funext x4 S5
  congr 1
  funext x5 S6
  exact le_and (by omega)
theorem mLst_6 {u0 u1 u2 u3 u4 u5 : ME} {S0 : Store} : mLst (mCons u0 (mCons u1 (mCons u2 (mCons u3 (mCons u4 (mCons u5 mNil)))))) δ S0 Q E = u0 δ S0 (fun x0 S1 => u1 δ S1 (fun x1 S2 => u2 δ S2 (fun x2 S3 => u3 δ S3 (fun x3 S4 => u4 δ S4 (fun x4 S5 => u5 δ S5 (fun x5 S6 => Q (.lst [x0, x1, x2, x3, x4, x5]) S6) E) E) E) E) E) E := by
  show u0 δ S0 (fun x0 S1 => u1 δ S1 (fun x1 S2 => u2 δ S2 (fun x2 S3 => u3 δ S3 (fun x3 S4 => u4 δ S4 (fun x4 S5 => u5 δ S5 (fun x5 S6 => (6 : Nat) ≤ 16777216 ∧ Q (.lst [x0, x1, x2, x3, x4, x5]) S6) E) E) E) E) E) E = _
  congr 1
  funext x0 S1
  congr 1
  funext x1 S2
  congr 1
  funext x2 S3
  congr 1
  funext x3 S4
  congr 1
  funext x4 S5
  congr 1
  funext x5 S6
  exact le_and (by omega)
theorem mTup_6 {u0 u1 u2 u3 u4 u5 : ME} {S0 : Store} : mTup (mCons u0 (mCons u1 (mCons u2 (mCons u3 (mCons u4 (mCons u5 mNil)))))) δ S0 Q E = u0 δ S0 (fun x0 S1 => u1 δ S1 (fun x1 S2 => u2 δ S2 (fun x2 S3 => u3 δ S3 (fun x3 S4 => u4 δ S4 (fun x4 S5 => u5 δ S5 (fun x5 S6 => Q (.tup [x0, x1, x2, x3, x4, x5]) S6) E) E) E) E) E) E := by
  show u0 δ S0 (fun x0 S1 => u1 δ S1 (fun x1 S2 => u2 δ S2 (fun x2 S3 => u3 δ S3 (fun x3 S4 => u4 δ S4 (fun x4 S5 => u5 δ S5 (fun x5 S6 => (6 : Nat) ≤ 16777216 ∧ Q (.tup [x0, x1, x2, x3, x4, x5]) S6) E) E) E) E) E) E = _
  congr 1
  funext x0 S1
  congr 1
  funext x1 S2
  congr 1
  funext x2 S3
  congr 1
  funext x3 S4
  congr 1
  funext x4 S5
  congr 1
  funext x5 S6
  exact le_and (by omega)
theorem atI_0 {d : DV} {ds : List DV} : atI (d :: ds) 0 = some d := by
  have := atI_at (l := d :: ds) (k := 0)
  simpa using this
theorem atI_1 {c d : DV} {ds : List DV} : atI (c :: d :: ds) 1 = some d := by
  have := atI_at (l := c :: d :: ds) (k := 1)
  simpa using this
theorem mLst_7 {u0 u1 u2 u3 u4 u5 u6 : ME} {S0 : Store} : mLst (mCons u0 (mCons u1 (mCons u2 (mCons u3 (mCons u4 (mCons u5 (mCons u6 mNil))))))) δ S0 Q E = u0 δ S0 (fun x0 S1 => u1 δ S1 (fun x1 S2 => u2 δ S2 (fun x2 S3 => u3 δ S3 (fun x3 S4 => u4 δ S4 (fun x4 S5 => u5 δ S5 (fun x5 S6 => u6 δ S6 (fun x6 S7 => Q (.lst [x0, x1, x2, x3, x4, x5, x6]) S7) E) E) E) E) E) E) E := by
  show u0 δ S0 (fun x0 S1 => u1 δ S1 (fun x1 S2 => u2 δ S2 (fun x2 S3 => u3 δ S3 (fun x3 S4 => u4 δ S4 (fun x4 S5 => u5 δ S5 (fun x5 S6 => u6 δ S6 (fun x6 S7 => (7 : Nat) ≤ 16777216 ∧ Q (.lst [x0, x1, x2, x3, x4, x5, x6]) S7) E) E) E) E) E) E) E = _
  congr 1
  funext x0 S1
  congr 1
  funext x1 S2
  congr 1
  funext x2 S3
  congr 1
  funext x3 S4
  congr 1
  funext x4 S5
  congr 1
  funext x5 S6
  congr 1
  funext x6 S7
  exact le_and (by omega)
theorem mLst_8 {u0 u1 u2 u3 u4 u5 u6 u7 : ME} {S0 : Store} : mLst (mCons u0 (mCons u1 (mCons u2 (mCons u3 (mCons u4 (mCons u5 (mCons u6 (mCons u7 mNil)))))))) δ S0 Q E = u0 δ S0 (fun x0 S1 => u1 δ S1 (fun x1 S2 => u2 δ S2 (fun x2 S3 => u3 δ S3 (fun x3 S4 => u4 δ S4 (fun x4 S5 => u5 δ S5 (fun x5 S6 => u6 δ S6 (fun x6 S7 => u7 δ S7 (fun x7 S8 => Q (.lst [x0, x1, x2, x3, x4, x5, x6, x7]) S8) E) E) E) E) E) E) E) E := by
  show u0 δ S0 (fun x0 S1 => u1 δ S1 (fun x1 S2 => u2 δ S2 (fun x2 S3 => u3 δ S3 (fun x3 S4 => u4 δ S4 (fun x4 S5 => u5 δ S5 (fun x5 S6 => u6 δ S6 (fun x6 S7 => u7 δ S7 (fun x7 S8 => (8 : Nat) ≤ 16777216 ∧ Q (.lst [x0, x1, x2, x3, x4, x5, x6, x7]) S8) E) E) E) E) E) E) E) E = _
  congr 1
  funext x0 S1
  congr 1
  funext x1 S2
  congr 1
  funext x2 S3
  congr 1
  funext x3 S4
  congr 1
  funext x4 S5
  congr 1
  funext x5 S6
  congr 1
  funext x6 S7
  congr 1
  funext x7 S8
  exact le_and (by omega)
theorem mLst_9 {u0 u1 u2 u3 u4 u5 u6 u7 u8 : ME} {S0 : Store} : mLst (mCons u0 (mCons u1 (mCons u2 (mCons u3 (mCons u4 (mCons u5 (mCons u6 (mCons u7 (mCons u8 mNil))))))))) δ S0 Q E = u0 δ S0 (fun x0 S1 => u1 δ S1 (fun x1 S2 => u2 δ S2 (fun x2 S3 => u3 δ S3 (fun x3 S4 => u4 δ S4 (fun x4 S5 => u5 δ S5 (fun x5 S6 => u6 δ S6 (fun x6 S7 => u7 δ S7 (fun x7 S8 => u8 δ S8 (fun x8 S9 => Q (.lst [x0, x1, x2, x3, x4, x5, x6, x7, x8]) S9) E) E) E) E) E) E) E) E) E := by
  show u0 δ S0 (fun x0 S1 => u1 δ S1 (fun x1 S2 => u2 δ S2 (fun x2 S3 => u3 δ S3 (fun x3 S4 => u4 δ S4 (fun x4 S5 => u5 δ S5 (fun x5 S6 => u6 δ S6 (fun x6 S7 => u7 δ S7 (fun x7 S8 => u8 δ S8 (fun x8 S9 => (9 : Nat) ≤ 16777216 ∧ Q (.lst [x0, x1, x2, x3, x4, x5, x6, x7, x8]) S9) E) E) E) E) E) E) E) E) E = _
  congr 1
  funext x0 S1
  congr 1
  funext x1 S2
  congr 1
  funext x2 S3
  congr 1
  funext x3 S4
  congr 1
  funext x4 S5
  congr 1
  funext x5 S6
  congr 1
  funext x6 S7
  congr 1
  funext x7 S8
  congr 1
  funext x8 S9
  exact le_and (by omega)
theorem mLst_10 {u0 u1 u2 u3 u4 u5 u6 u7 u8 u9 : ME} {S0 : Store} : mLst (mCons u0 (mCons u1 (mCons u2 (mCons u3 (mCons u4 (mCons u5 (mCons u6 (mCons u7 (mCons u8 (mCons u9 mNil)))))))))) δ S0 Q E = u0 δ S0 (fun x0 S1 => u1 δ S1 (fun x1 S2 => u2 δ S2 (fun x2 S3 => u3 δ S3 (fun x3 S4 => u4 δ S4 (fun x4 S5 => u5 δ S5 (fun x5 S6 => u6 δ S6 (fun x6 S7 => u7 δ S7 (fun x7 S8 => u8 δ S8 (fun x8 S9 => u9 δ S9 (fun x9 S10 => Q (.lst [x0, x1, x2, x3, x4, x5, x6, x7, x8, x9]) S10) E) E) E) E) E) E) E) E) E) E := by
  show u0 δ S0 (fun x0 S1 => u1 δ S1 (fun x1 S2 => u2 δ S2 (fun x2 S3 => u3 δ S3 (fun x3 S4 => u4 δ S4 (fun x4 S5 => u5 δ S5 (fun x5 S6 => u6 δ S6 (fun x6 S7 => u7 δ S7 (fun x7 S8 => u8 δ S8 (fun x8 S9 => u9 δ S9 (fun x9 S10 => (10 : Nat) ≤ 16777216 ∧ Q (.lst [x0, x1, x2, x3, x4, x5, x6, x7, x8, x9]) S10) E) E) E) E) E) E) E) E) E) E = _
  congr 1
  funext x0 S1
  congr 1
  funext x1 S2
  congr 1
  funext x2 S3
  congr 1
  funext x3 S4
  congr 1
  funext x4 S5
  congr 1
  funext x5 S6
  congr 1
  funext x6 S7
  congr 1
  funext x7 S8
  congr 1
  funext x8 S9
  congr 1
  funext x9 S10
  exact le_and (by omega)
theorem mLst_11 {u0 u1 u2 u3 u4 u5 u6 u7 u8 u9 u10 : ME} {S0 : Store} : mLst (mCons u0 (mCons u1 (mCons u2 (mCons u3 (mCons u4 (mCons u5 (mCons u6 (mCons u7 (mCons u8 (mCons u9 (mCons u10 mNil))))))))))) δ S0 Q E = u0 δ S0 (fun x0 S1 => u1 δ S1 (fun x1 S2 => u2 δ S2 (fun x2 S3 => u3 δ S3 (fun x3 S4 => u4 δ S4 (fun x4 S5 => u5 δ S5 (fun x5 S6 => u6 δ S6 (fun x6 S7 => u7 δ S7 (fun x7 S8 => u8 δ S8 (fun x8 S9 => u9 δ S9 (fun x9 S10 => u10 δ S10 (fun x10 S11 => Q (.lst [x0, x1, x2, x3, x4, x5, x6, x7, x8, x9, x10]) S11) E) E) E) E) E) E) E) E) E) E) E := by
  show u0 δ S0 (fun x0 S1 => u1 δ S1 (fun x1 S2 => u2 δ S2 (fun x2 S3 => u3 δ S3 (fun x3 S4 => u4 δ S4 (fun x4 S5 => u5 δ S5 (fun x5 S6 => u6 δ S6 (fun x6 S7 => u7 δ S7 (fun x7 S8 => u8 δ S8 (fun x8 S9 => u9 δ S9 (fun x9 S10 => u10 δ S10 (fun x10 S11 => (11 : Nat) ≤ 16777216 ∧ Q (.lst [x0, x1, x2, x3, x4, x5, x6, x7, x8, x9, x10]) S11) E) E) E) E) E) E) E) E) E) E) E = _
  congr 1
  funext x0 S1
  congr 1
  funext x1 S2
  congr 1
  funext x2 S3
  congr 1
  funext x3 S4
  congr 1
  funext x4 S5
  congr 1
  funext x5 S6
  congr 1
  funext x6 S7
  congr 1
  funext x7 S8
  congr 1
  funext x8 S9
  congr 1
  funext x9 S10
  congr 1
  funext x10 S11
  exact le_and (by omega)
theorem mLst_12 {u0 u1 u2 u3 u4 u5 u6 u7 u8 u9 u10 u11 : ME} {S0 : Store} : mLst (mCons u0 (mCons u1 (mCons u2 (mCons u3 (mCons u4 (mCons u5 (mCons u6 (mCons u7 (mCons u8 (mCons u9 (mCons u10 (mCons u11 mNil)))))))))))) δ S0 Q E = u0 δ S0 (fun x0 S1 => u1 δ S1 (fun x1 S2 => u2 δ S2 (fun x2 S3 => u3 δ S3 (fun x3 S4 => u4 δ S4 (fun x4 S5 => u5 δ S5 (fun x5 S6 => u6 δ S6 (fun x6 S7 => u7 δ S7 (fun x7 S8 => u8 δ S8 (fun x8 S9 => u9 δ S9 (fun x9 S10 => u10 δ S10 (fun x10 S11 => u11 δ S11 (fun x11 S12 => Q (.lst [x0, x1, x2, x3, x4, x5, x6, x7, x8, x9, x10, x11]) S12) E) E) E) E) E) E) E) E) E) E) E) E := by
  show u0 δ S0 (fun x0 S1 => u1 δ S1 (fun x1 S2 => u2 δ S2 (fun x2 S3 => u3 δ S3 (fun x3 S4 => u4 δ S4 (fun x4 S5 => u5 δ S5 (fun x5 S6 => u6 δ S6 (fun x6 S7 => u7 δ S7 (fun x7 S8 => u8 δ S8 (fun x8 S9 => u9 δ S9 (fun x9 S10 => u10 δ S10 (fun x10 S11 => u11 δ S11 (fun x11 S12 => (12 : Nat) ≤ 16777216 ∧ Q (.lst [x0, x1, x2, x3, x4, x5, x6, x7, x8, x9, x10, x11]) S12) E) E) E) E) E) E) E) E) E) E) E) E = _
  congr 1
  funext x0 S1
  congr 1
  funext x1 S2
  congr 1
  funext x2 S3
  congr 1
  funext x3 S4
  congr 1
  funext x4 S5
  congr 1
  funext x5 S6
  congr 1
  funext x6 S7
  congr 1
  funext x7 S8
  congr 1
  funext x8 S9
  congr 1
  funext x9 S10
  congr 1
  funext x10 S11
  congr 1
  funext x11 S12
  exact le_and (by omega)
theorem mLst_13 {u0 u1 u2 u3 u4 u5 u6 u7 u8 u9 u10 u11 u12 : ME} {S0 : Store} : mLst (mCons u0 (mCons u1 (mCons u2 (mCons u3 (mCons u4 (mCons u5 (mCons u6 (mCons u7 (mCons u8 (mCons u9 (mCons u10 (mCons u11 (mCons u12 mNil))))))))))))) δ S0 Q E = u0 δ S0 (fun x0 S1 => u1 δ S1 (fun x1 S2 => u2 δ S2 (fun x2 S3 => u3 δ S3 (fun x3 S4 => u4 δ S4 (fun x4 S5 => u5 δ S5 (fun x5 S6 => u6 δ S6 (fun x6 S7 => u7 δ S7 (fun x7 S8 => u8 δ S8 (fun x8 S9 => u9 δ S9 (fun x9 S10 => u10 δ S10 (fun x10 S11 => u11 δ S11 (fun x11 S12 => u12 δ S12 (fun x12 S13 => Q (.lst [x0, x1, x2, x3, x4, x5, x6, x7, x8, x9, x10, x11, x12]) S13) E) E) E) E) E) E) E) E) E) E) E) E) E := by
  show u0 δ S0 (fun x0 S1 => u1 δ S1 (fun x1 S2 => u2 δ S2 (fun x2 S3 => u3 δ S3 (fun x3 S4 => u4 δ S4 (fun x4 S5 => u5 δ S5 (fun x5 S6 => u6 δ S6 (fun x6 S7 => u7 δ S7 (fun x7 S8 => u8 δ S8 (fun x8 S9 => u9 δ S9 (fun x9 S10 => u10 δ S10 (fun x10 S11 => u11 δ S11 (fun x11 S12 => u12 δ S12 (fun x12 S13 => (13 : Nat) ≤ 16777216 ∧ Q (.lst [x0, x1, x2, x3, x4, x5, x6, x7, x8, x9, x10, x11, x12]) S13) E) E) E) E) E) E) E) E) E) E) E) E) E = _
  congr 1
  funext x0 S1
  congr 1
  funext x1 S2
  congr 1
  funext x2 S3
  congr 1
  funext x3 S4
  congr 1
  funext x4 S5
  congr 1
  funext x5 S6
  congr 1
  funext x6 S7
  congr 1
  funext x7 S8
  congr 1
  funext x8 S9
  congr 1
  funext x9 S10
  congr 1
  funext x10 S11
  congr 1
  funext x11 S12
  congr 1
  funext x12 S13
  exact le_and (by omega)
theorem mLst_14 {u0 u1 u2 u3 u4 u5 u6 u7 u8 u9 u10 u11 u12 u13 : ME} {S0 : Store} : mLst (mCons u0 (mCons u1 (mCons u2 (mCons u3 (mCons u4 (mCons u5 (mCons u6 (mCons u7 (mCons u8 (mCons u9 (mCons u10 (mCons u11 (mCons u12 (mCons u13 mNil)))))))))))))) δ S0 Q E = u0 δ S0 (fun x0 S1 => u1 δ S1 (fun x1 S2 => u2 δ S2 (fun x2 S3 => u3 δ S3 (fun x3 S4 => u4 δ S4 (fun x4 S5 => u5 δ S5 (fun x5 S6 => u6 δ S6 (fun x6 S7 => u7 δ S7 (fun x7 S8 => u8 δ S8 (fun x8 S9 => u9 δ S9 (fun x9 S10 => u10 δ S10 (fun x10 S11 => u11 δ S11 (fun x11 S12 => u12 δ S12 (fun x12 S13 => u13 δ S13 (fun x13 S14 => Q (.lst [x0, x1, x2, x3, x4, x5, x6, x7, x8, x9, x10, x11, x12, x13]) S14) E) E) E) E) E) E) E) E) E) E) E) E) E) E := by
  show u0 δ S0 (fun x0 S1 => u1 δ S1 (fun x1 S2 => u2 δ S2 (fun x2 S3 => u3 δ S3 (fun x3 S4 => u4 δ S4 (fun x4 S5 => u5 δ S5 (fun x5 S6 => u6 δ S6 (fun x6 S7 => u7 δ S7 (fun x7 S8 => u8 δ S8 (fun x8 S9 => u9 δ S9 (fun x9 S10 => u10 δ S10 (fun x10 S11 => u11 δ S11 (fun x11 S12 => u12 δ S12 (fun x12 S13 => u13 δ S13 (fun x13 S14 => (14 : Nat) ≤ 16777216 ∧ Q (.lst [x0, x1, x2, x3, x4, x5, x6, x7, x8, x9, x10, x11, x12, x13]) S14) E) E) E) E) E) E) E) E) E) E) E) E) E) E = _
  congr 1
  funext x0 S1
  congr 1
  funext x1 S2
  congr 1
  funext x2 S3
  congr 1
  funext x3 S4
  congr 1
  funext x4 S5
  congr 1
  funext x5 S6
  congr 1
  funext x6 S7
  congr 1
  funext x7 S8
  congr 1
  funext x8 S9
  congr 1
  funext x9 S10
  congr 1
  funext x10 S11
  congr 1
  funext x11 S12
  congr 1
  funext x12 S13
  congr 1
  funext x13 S14
  exact le_and (by omega)
theorem mLst_15 {u0 u1 u2 u3 u4 u5 u6 u7 u8 u9 u10 u11 u12 u13 u14 : ME} {S0 : Store} : mLst (mCons u0 (mCons u1 (mCons u2 (mCons u3 (mCons u4 (mCons u5 (mCons u6 (mCons u7 (mCons u8 (mCons u9 (mCons u10 (mCons u11 (mCons u12 (mCons u13 (mCons u14 mNil))))))))))))))) δ S0 Q E = u0 δ S0 (fun x0 S1 => u1 δ S1 (fun x1 S2 => u2 δ S2 (fun x2 S3 => u3 δ S3 (fun x3 S4 => u4 δ S4 (fun x4 S5 => u5 δ S5 (fun x5 S6 => u6 δ S6 (fun x6 S7 => u7 δ S7 (fun x7 S8 => u8 δ S8 (fun x8 S9 => u9 δ S9 (fun x9 S10 => u10 δ S10 (fun x10 S11 => u11 δ S11 (fun x11 S12 => u12 δ S12 (fun x12 S13 => u13 δ S13 (fun x13 S14 => u14 δ S14 (fun x14 S15 => Q (.lst [x0, x1, x2, x3, x4, x5, x6, x7, x8, x9, x10, x11, x12, x13, x14]) S15) E) E) E) E) E) E) E) E) E) E) E) E) E) E) E := by
  show u0 δ S0 (fun x0 S1 => u1 δ S1 (fun x1 S2 => u2 δ S2 (fun x2 S3 => u3 δ S3 (fun x3 S4 => u4 δ S4 (fun x4 S5 => u5 δ S5 (fun x5 S6 => u6 δ S6 (fun x6 S7 => u7 δ S7 (fun x7 S8 => u8 δ S8 (fun x8 S9 => u9 δ S9 (fun x9 S10 => u10 δ S10 (fun x10 S11 => u11 δ S11 (fun x11 S12 => u12 δ S12 (fun x12 S13 => u13 δ S13 (fun x13 S14 => u14 δ S14 (fun x14 S15 => (15 : Nat) ≤ 16777216 ∧ Q (.lst [x0, x1, x2, x3, x4, x5, x6, x7, x8, x9, x10, x11, x12, x13, x14]) S15) E) E) E) E) E) E) E) E) E) E) E) E) E) E) E = _
  congr 1
  funext x0 S1
  congr 1
  funext x1 S2
  congr 1
  funext x2 S3
  congr 1
  funext x3 S4
  congr 1
  funext x4 S5
  congr 1
  funext x5 S6
  congr 1
  funext x6 S7
  congr 1
  funext x7 S8
  congr 1
  funext x8 S9
  congr 1
  funext x9 S10
  congr 1
  funext x10 S11
  congr 1
  funext x11 S12
  congr 1
  funext x12 S13
  congr 1
  funext x13 S14
  congr 1
  funext x14 S15
  exact le_and (by omega)
theorem mLst_16 {u0 u1 u2 u3 u4 u5 u6 u7 u8 u9 u10 u11 u12 u13 u14 u15 : ME} {S0 : Store} : mLst (mCons u0 (mCons u1 (mCons u2 (mCons u3 (mCons u4 (mCons u5 (mCons u6 (mCons u7 (mCons u8 (mCons u9 (mCons u10 (mCons u11 (mCons u12 (mCons u13 (mCons u14 (mCons u15 mNil)))))))))))))))) δ S0 Q E = u0 δ S0 (fun x0 S1 => u1 δ S1 (fun x1 S2 => u2 δ S2 (fun x2 S3 => u3 δ S3 (fun x3 S4 => u4 δ S4 (fun x4 S5 => u5 δ S5 (fun x5 S6 => u6 δ S6 (fun x6 S7 => u7 δ S7 (fun x7 S8 => u8 δ S8 (fun x8 S9 => u9 δ S9 (fun x9 S10 => u10 δ S10 (fun x10 S11 => u11 δ S11 (fun x11 S12 => u12 δ S12 (fun x12 S13 => u13 δ S13 (fun x13 S14 => u14 δ S14 (fun x14 S15 => u15 δ S15 (fun x15 S16 => Q (.lst [x0, x1, x2, x3, x4, x5, x6, x7, x8, x9, x10, x11, x12, x13, x14, x15]) S16) E) E) E) E) E) E) E) E) E) E) E) E) E) E) E) E := by
  show u0 δ S0 (fun x0 S1 => u1 δ S1 (fun x1 S2 => u2 δ S2 (fun x2 S3 => u3 δ S3 (fun x3 S4 => u4 δ S4 (fun x4 S5 => u5 δ S5 (fun x5 S6 => u6 δ S6 (fun x6 S7 => u7 δ S7 (fun x7 S8 => u8 δ S8 (fun x8 S9 => u9 δ S9 (fun x9 S10 => u10 δ S10 (fun x10 S11 => u11 δ S11 (fun x11 S12 => u12 δ S12 (fun x12 S13 => u13 δ S13 (fun x13 S14 => u14 δ S14 (fun x14 S15 => u15 δ S15 (fun x15 S16 => (16 : Nat) ≤ 16777216 ∧ Q (.lst [x0, x1, x2, x3, x4, x5, x6, x7, x8, x9, x10, x11, x12, x13, x14, x15]) S16) E) E) E) E) E) E) E) E) E) E) E) E) E) E) E) E = _
  congr 1
  funext x0 S1
  congr 1
  funext x1 S2
  congr 1
  funext x2 S3
  congr 1
  funext x3 S4
  congr 1
  funext x4 S5
  congr 1
  funext x5 S6
  congr 1
  funext x6 S7
  congr 1
  funext x7 S8
  congr 1
  funext x8 S9
  congr 1
  funext x9 S10
  congr 1
  funext x10 S11
  congr 1
  funext x11 S12
  congr 1
  funext x12 S13
  congr 1
  funext x13 S14
  congr 1
  funext x14 S15
  congr 1
  funext x15 S16
  exact le_and (by omega)
theorem mLst_17 {u0 u1 u2 u3 u4 u5 u6 u7 u8 u9 u10 u11 u12 u13 u14 u15 u16 : ME} {S0 : Store} : mLst (mCons u0 (mCons u1 (mCons u2 (mCons u3 (mCons u4 (mCons u5 (mCons u6 (mCons u7 (mCons u8 (mCons u9 (mCons u10 (mCons u11 (mCons u12 (mCons u13 (mCons u14 (mCons u15 (mCons u16 mNil))))))))))))))))) δ S0 Q E = u0 δ S0 (fun x0 S1 => u1 δ S1 (fun x1 S2 => u2 δ S2 (fun x2 S3 => u3 δ S3 (fun x3 S4 => u4 δ S4 (fun x4 S5 => u5 δ S5 (fun x5 S6 => u6 δ S6 (fun x6 S7 => u7 δ S7 (fun x7 S8 => u8 δ S8 (fun x8 S9 => u9 δ S9 (fun x9 S10 => u10 δ S10 (fun x10 S11 => u11 δ S11 (fun x11 S12 => u12 δ S12 (fun x12 S13 => u13 δ S13 (fun x13 S14 => u14 δ S14 (fun x14 S15 => u15 δ S15 (fun x15 S16 => u16 δ S16 (fun x16 S17 => Q (.lst [x0, x1, x2, x3, x4, x5, x6, x7, x8, x9, x10, x11, x12, x13, x14, x15, x16]) S17) E) E) E) E) E) E) E) E) E) E) E) E) E) E) E) E) E := by
  show u0 δ S0 (fun x0 S1 => u1 δ S1 (fun x1 S2 => u2 δ S2 (fun x2 S3 => u3 δ S3 (fun x3 S4 => u4 δ S4 (fun x4 S5 => u5 δ S5 (fun x5 S6 => u6 δ S6 (fun x6 S7 => u7 δ S7 (fun x7 S8 => u8 δ S8 (fun x8 S9 => u9 δ S9 (fun x9 S10 => u10 δ S10 (fun x10 S11 => u11 δ S11 (fun x11 S12 => u12 δ S12 (fun x12 S13 => u13 δ S13 (fun x13 S14 => u14 δ S14 (fun x14 S15 => u15 δ S15 (fun x15 S16 => u16 δ S16 (fun x16 S17 => (17 : Nat) ≤ 16777216 ∧ Q (.lst [x0, x1, x2, x3, x4, x5, x6, x7, x8, x9, x10, x11, x12, x13, x14, x15, x16]) S17) E) E) E) E) E) E) E) E) E) E) E) E) E) E) E) E) E = _
  congr 1
  funext x0 S1
  congr 1
  funext x1 S2
  congr 1
  funext x2 S3
  congr 1
  funext x3 S4
  congr 1
  funext x4 S5
  congr 1
  funext x5 S6
  congr 1
  funext x6 S7
  congr 1
  funext x7 S8
  congr 1
  funext x8 S9
  congr 1
  funext x9 S10
  congr 1
  funext x10 S11
  congr 1
  funext x11 S12
  congr 1
  funext x12 S13
  congr 1
  funext x13 S14
  congr 1
  funext x14 S15
  congr 1
  funext x15 S16
  congr 1
  funext x16 S17
  exact le_and (by omega)
theorem mLst_18 {u0 u1 u2 u3 u4 u5 u6 u7 u8 u9 u10 u11 u12 u13 u14 u15 u16 u17 : ME} {S0 : Store} : mLst (mCons u0 (mCons u1 (mCons u2 (mCons u3 (mCons u4 (mCons u5 (mCons u6 (mCons u7 (mCons u8 (mCons u9 (mCons u10 (mCons u11 (mCons u12 (mCons u13 (mCons u14 (mCons u15 (mCons u16 (mCons u17 mNil)))))))))))))))))) δ S0 Q E = u0 δ S0 (fun x0 S1 => u1 δ S1 (fun x1 S2 => u2 δ S2 (fun x2 S3 => u3 δ S3 (fun x3 S4 => u4 δ S4 (fun x4 S5 => u5 δ S5 (fun x5 S6 => u6 δ S6 (fun x6 S7 => u7 δ S7 (fun x7 S8 => u8 δ S8 (fun x8 S9 => u9 δ S9 (fun x9 S10 => u10 δ S10 (fun x10 S11 => u11 δ S11 (fun x11 S12 => u12 δ S12 (fun x12 S13 => u13 δ S13 (fun x13 S14 => u14 δ S14 (fun x14 S15 => u15 δ S15 (fun x15 S16 => u16 δ S16 (fun x16 S17 => u17 δ S17 (fun x17 S18 => Q (.lst [x0, x1, x2, x3, x4, x5, x6, x7, x8, x9, x10, x11, x12, x13, x14, x15, x16, x17]) S18) E) E) E) E) E) E) E) E) E) E) E) E) E) E) E) E) E) E := by
  show u0 δ S0 (fun x0 S1 => u1 δ S1 (fun x1 S2 => u2 δ S2 (fun x2 S3 => u3 δ S3 (fun x3 S4 => u4 δ S4 (fun x4 S5 => u5 δ S5 (fun x5 S6 => u6 δ S6 (fun x6 S7 => u7 δ S7 (fun x7 S8 => u8 δ S8 (fun x8 S9 => u9 δ S9 (fun x9 S10 => u10 δ S10 (fun x10 S11 => u11 δ S11 (fun x11 S12 => u12 δ S12 (fun x12 S13 => u13 δ S13 (fun x13 S14 => u14 δ S14 (fun x14 S15 => u15 δ S15 (fun x15 S16 => u16 δ S16 (fun x16 S17 => u17 δ S17 (fun x17 S18 => (18 : Nat) ≤ 16777216 ∧ Q (.lst [x0, x1, x2, x3, x4, x5, x6, x7, x8, x9, x10, x11, x12, x13, x14, x15, x16, x17]) S18) E) E) E) E) E) E) E) E) E) E) E) E) E) E) E) E) E) E = _
  congr 1
  funext x0 S1
  congr 1
  funext x1 S2
  congr 1
  funext x2 S3
  congr 1
  funext x3 S4
  congr 1
  funext x4 S5
  congr 1
  funext x5 S6
  congr 1
  funext x6 S7
  congr 1
  funext x7 S8
  congr 1
  funext x8 S9
  congr 1
  funext x9 S10
  congr 1
  funext x10 S11
  congr 1
  funext x11 S12
  congr 1
  funext x12 S13
  congr 1
  funext x13 S14
  congr 1
  funext x14 S15
  congr 1
  funext x15 S16
  congr 1
  funext x16 S17
  congr 1
  funext x17 S18
  exact le_and (by omega)
theorem mLst_19 {u0 u1 u2 u3 u4 u5 u6 u7 u8 u9 u10 u11 u12 u13 u14 u15 u16 u17 u18 : ME} {S0 : Store} : mLst (mCons u0 (mCons u1 (mCons u2 (mCons u3 (mCons u4 (mCons u5 (mCons u6 (mCons u7 (mCons u8 (mCons u9 (mCons u10 (mCons u11 (mCons u12 (mCons u13 (mCons u14 (mCons u15 (mCons u16 (mCons u17 (mCons u18 mNil))))))))))))))))))) δ S0 Q E = u0 δ S0 (fun x0 S1 => u1 δ S1 (fun x1 S2 => u2 δ S2 (fun x2 S3 => u3 δ S3 (fun x3 S4 => u4 δ S4 (fun x4 S5 => u5 δ S5 (fun x5 S6 => u6 δ S6 (fun x6 S7 => u7 δ S7 (fun x7 S8 => u8 δ S8 (fun x8 S9 => u9 δ S9 (fun x9 S10 => u10 δ S10 (fun x10 S11 => u11 δ S11 (fun x11 S12 => u12 δ S12 (fun x12 S13 => u13 δ S13 (fun x13 S14 => u14 δ S14 (fun x14 S15 => u15 δ S15 (fun x15 S16 => u16 δ S16 (fun x16 S17 => u17 δ S17 (fun x17 S18 => u18 δ S18 (fun x18 S19 => Q (.lst [x0, x1, x2, x3, x4, x5, x6, x7, x8, x9, x10, x11, x12, x13, x14, x15, x16, x17, x18]) S19) E) E) E) E) E) E) E) E) E) E) E) E) E) E) E) E) E) E) E := by
  show u0 δ S0 (fun x0 S1 => u1 δ S1 (fun x1 S2 => u2 δ S2 (fun x2 S3 => u3 δ S3 (fun x3 S4 => u4 δ S4 (fun x4 S5 => u5 δ S5 (fun x5 S6 => u6 δ S6 (fun x6 S7 => u7 δ S7 (fun x7 S8 => u8 δ S8 (fun x8 S9 => u9 δ S9 (fun x9 S10 => u10 δ S10 (fun x10 S11 => u11 δ S11 (fun x11 S12 => u12 δ S12 (fun x12 S13 => u13 δ S13 (fun x13 S14 => u14 δ S14 (fun x14 S15 => u15 δ S15 (fun x15 S16 => u16 δ S16 (fun x16 S17 => u17 δ S17 (fun x17 S18 => u18 δ S18 (fun x18 S19 => (19 : Nat) ≤ 16777216 ∧ Q (.lst [x0, x1, x2, x3, x4, x5, x6, x7, x8, x9, x10, x11, x12, x13, x14, x15, x16, x17, x18]) S19) E) E) E) E) E) E) E) E) E) E) E) E) E) E) E) E) E) E) E = _
  congr 1
  funext x0 S1
  congr 1
  funext x1 S2
  congr 1
  funext x2 S3
  congr 1
  funext x3 S4
  congr 1
  funext x4 S5
  congr 1
  funext x5 S6
  congr 1
  funext x6 S7
  congr 1
  funext x7 S8
  congr 1
  funext x8 S9
  congr 1
  funext x9 S10
  congr 1
  funext x10 S11
  congr 1
  funext x11 S12
  congr 1
  funext x12 S13
  congr 1
  funext x13 S14
  congr 1
  funext x14 S15
  congr 1
  funext x15 S16
  congr 1
  funext x16 S17
  congr 1
  funext x17 S18
  congr 1
  funext x18 S19
  exact le_and (by omega)
theorem mLst_20 {u0 u1 u2 u3 u4 u5 u6 u7 u8 u9 u10 u11 u12 u13 u14 u15 u16 u17 u18 u19 : ME} {S0 : Store} : mLst (mCons u0 (mCons u1 (mCons u2 (mCons u3 (mCons u4 (mCons u5 (mCons u6 (mCons u7 (mCons u8 (mCons u9 (mCons u10 (mCons u11 (mCons u12 (mCons u13 (mCons u14 (mCons u15 (mCons u16 (mCons u17 (mCons u18 (mCons u19 mNil)))))))))))))))))))) δ S0 Q E = u0 δ S0 (fun x0 S1 => u1 δ S1 (fun x1 S2 => u2 δ S2 (fun x2 S3 => u3 δ S3 (fun x3 S4 => u4 δ S4 (fun x4 S5 => u5 δ S5 (fun x5 S6 => u6 δ S6 (fun x6 S7 => u7 δ S7 (fun x7 S8 => u8 δ S8 (fun x8 S9 => u9 δ S9 (fun x9 S10 => u10 δ S10 (fun x10 S11 => u11 δ S11 (fun x11 S12 => u12 δ S12 (fun x12 S13 => u13 δ S13 (fun x13 S14 => u14 δ S14 (fun x14 S15 => u15 δ S15 (fun x15 S16 => u16 δ S16 (fun x16 S17 => u17 δ S17 (fun x17 S18 => u18 δ S18 (fun x18 S19 => u19 δ S19 (fun x19 S20 => Q (.lst [x0, x1, x2, x3, x4, x5, x6, x7, x8, x9, x10, x11, x12, x13, x14, x15, x16, x17, x18, x19]) S20) E) E) E) E) E) E) E) E) E) E) E) E) E) E) E) E) E) E) E) E := by
  show u0 δ S0 (fun x0 S1 => u1 δ S1 (fun x1 S2 => u2 δ S2 (fun x2 S3 => u3 δ S3 (fun x3 S4 => u4 δ S4 (fun x4 S5 => u5 δ S5 (fun x5 S6 => u6 δ S6 (fun x6 S7 => u7 δ S7 (fun x7 S8 => u8 δ S8 (fun x8 S9 => u9 δ S9 (fun x9 S10 => u10 δ S10 (fun x10 S11 => u11 δ S11 (fun x11 S12 => u12 δ S12 (fun x12 S13 => u13 δ S13 (fun x13 S14 => u14 δ S14 (fun x14 S15 => u15 δ S15 (fun x15 S16 => u16 δ S16 (fun x16 S17 => u17 δ S17 (fun x17 S18 => u18 δ S18 (fun x18 S19 => u19 δ S19 (fun x19 S20 => (20 : Nat) ≤ 16777216 ∧ Q (.lst [x0, x1, x2, x3, x4, x5, x6, x7, x8, x9, x10, x11, x12, x13, x14, x15, x16, x17, x18, x19]) S20) E) E) E) E) E) E) E) E) E) E) E) E) E) E) E) E) E) E) E) E = _
  congr 1
  funext x0 S1
  congr 1
  funext x1 S2
  congr 1
  funext x2 S3
  congr 1
  funext x3 S4
  congr 1
  funext x4 S5
  congr 1
  funext x5 S6
  congr 1
  funext x6 S7
  congr 1
  funext x7 S8
  congr 1
  funext x8 S9
  congr 1
  funext x9 S10
  congr 1
  funext x10 S11
  congr 1
  funext x11 S12
  congr 1
  funext x12 S13
  congr 1
  funext x13 S14
  congr 1
  funext x14 S15
  congr 1
  funext x15 S16
  congr 1
  funext x16 S17
  congr 1
  funext x17 S18
  congr 1
  funext x18 S19
  congr 1
  funext x19 S20
  exact le_and (by omega)
theorem gIsi_non_int : gIsi [.non, .ty "int"] S Q = Q (.bl false) S := gIsi_of rfl (by decide +kernel)
theorem gIsi_non_bool : gIsi [.non, .ty "bool"] S Q = Q (.bl false) S := gIsi_of rfl (by decide +kernel)
theorem gIsi_non_tuple : gIsi [.non, .ty "tuple"] S Q = Q (.bl false) S := gIsi_of rfl (by decide +kernel)
theorem gIsi_non_str : gIsi [.non, .ty "str"] S Q = Q (.bl false) S := gIsi_of rfl (by decide +kernel)
theorem gIsi_non_list : gIsi [.non, .ty "list"] S Q = Q (.bl false) S := gIsi_of rfl (by decide +kernel)
theorem fIs_non : fIs q .non .non S Q = Q (.bl (q true)) S := by
  show (DV.non = .non ∧ Q (.bl (q true)) S) = _
  rw [eq_self, true_and]
theorem gIsi_bl_int : gIsi [(.bl b), .ty "int"] S Q = Q (.bl true) S := gIsi_of rfl (by decide +kernel)
theorem gIsi_bl_bool : gIsi [(.bl b), .ty "bool"] S Q = Q (.bl true) S := gIsi_of rfl (by decide +kernel)
theorem gIsi_bl_tuple : gIsi [(.bl b), .ty "tuple"] S Q = Q (.bl false) S := gIsi_of rfl (by decide +kernel)
theorem gIsi_bl_str : gIsi [(.bl b), .ty "str"] S Q = Q (.bl false) S := gIsi_of rfl (by decide +kernel)
theorem gIsi_bl_list : gIsi [(.bl b), .ty "list"] S Q = Q (.bl false) S := gIsi_of rfl (by decide +kernel)
theorem fIs_bl : fIs q (.bl b) .non S Q = Q (.bl (q false)) S := by
  show (DV.non = .non ∧ Q (.bl (q false)) S) = _
  rw [eq_self, true_and]
theorem gIsi_int_int : gIsi [(.int i), .ty "int"] S Q = Q (.bl true) S := gIsi_of rfl (by decide +kernel)
theorem gIsi_int_bool : gIsi [(.int i), .ty "bool"] S Q = Q (.bl false) S := gIsi_of rfl (by decide +kernel)
theorem gIsi_int_tuple : gIsi [(.int i), .ty "tuple"] S Q = Q (.bl false) S := gIsi_of rfl (by decide +kernel)
theorem gIsi_int_str : gIsi [(.int i), .ty "str"] S Q = Q (.bl false) S := gIsi_of rfl (by decide +kernel)
theorem gIsi_int_list : gIsi [(.int i), .ty "list"] S Q = Q (.bl false) S := gIsi_of rfl (by decide +kernel)
theorem fIs_int : fIs q (.int i) .non S Q = Q (.bl (q false)) S := by
  show (DV.non = .non ∧ Q (.bl (q false)) S) = _
  rw [eq_self, true_and]
theorem gIsi_str_int : gIsi [(.str x), .ty "int"] S Q = Q (.bl false) S := gIsi_of rfl (by decide +kernel)
theorem gIsi_str_bool : gIsi [(.str x), .ty "bool"] S Q = Q (.bl false) S := gIsi_of rfl (by decide +kernel)
theorem gIsi_str_tuple : gIsi [(.str x), .ty "tuple"] S Q = Q (.bl false) S := gIsi_of rfl (by decide +kernel)
theorem gIsi_str_str : gIsi [(.str x), .ty "str"] S Q = Q (.bl true) S := gIsi_of rfl (by decide +kernel)
theorem gIsi_str_list : gIsi [(.str x), .ty "list"] S Q = Q (.bl false) S := gIsi_of rfl (by decide +kernel)
theorem fIs_str : fIs q (.str x) .non S Q = Q (.bl (q false)) S := by
  show (DV.non = .non ∧ Q (.bl (q false)) S) = _
  rw [eq_self, true_and]
theorem gIsi_tup_int : gIsi [(.tup ds), .ty "int"] S Q = Q (.bl false) S := gIsi_of rfl (by decide +kernel)
theorem gIsi_tup_bool : gIsi [(.tup ds), .ty "bool"] S Q = Q (.bl false) S := gIsi_of rfl (by decide +kernel)
theorem gIsi_tup_tuple : gIsi [(.tup ds), .ty "tuple"] S Q = Q (.bl true) S := gIsi_of rfl (by decide +kernel)
theorem gIsi_tup_str : gIsi [(.tup ds), .ty "str"] S Q = Q (.bl false) S := gIsi_of rfl (by decide +kernel)
theorem gIsi_tup_list : gIsi [(.tup ds), .ty "list"] S Q = Q (.bl false) S := gIsi_of rfl (by decide +kernel)
theorem fIs_tup : fIs q (.tup ds) .non S Q = Q (.bl (q false)) S := by
  show (DV.non = .non ∧ Q (.bl (q false)) S) = _
  rw [eq_self, true_and]
theorem gIsi_lst_int : gIsi [(.lst ds), .ty "int"] S Q = Q (.bl false) S := gIsi_of rfl (by decide +kernel)
theorem gIsi_lst_bool : gIsi [(.lst ds), .ty "bool"] S Q = Q (.bl false) S := gIsi_of rfl (by decide +kernel)
theorem gIsi_lst_tuple : gIsi [(.lst ds), .ty "tuple"] S Q = Q (.bl false) S := gIsi_of rfl (by decide +kernel)
theorem gIsi_lst_str : gIsi [(.lst ds), .ty "str"] S Q = Q (.bl false) S := gIsi_of rfl (by decide +kernel)
theorem gIsi_lst_list : gIsi [(.lst ds), .ty "list"] S Q = Q (.bl true) S := gIsi_of rfl (by decide +kernel)
theorem fIs_lst : fIs q (.lst ds) .non S Q = Q (.bl (q false)) S := by
  show (DV.non = .non ∧ Q (.bl (q false)) S) = _
  rw [eq_self, true_and]
theorem gIsi_frz_int : gIsi [(.frz ds), .ty "int"] S Q = Q (.bl false) S := gIsi_of rfl (by decide +kernel)
theorem gIsi_frz_bool : gIsi [(.frz ds), .ty "bool"] S Q = Q (.bl false) S := gIsi_of rfl (by decide +kernel)
theorem gIsi_frz_tuple : gIsi [(.frz ds), .ty "tuple"] S Q = Q (.bl false) S := gIsi_of rfl (by decide +kernel)
theorem gIsi_frz_str : gIsi [(.frz ds), .ty "str"] S Q = Q (.bl false) S := gIsi_of rfl (by decide +kernel)
theorem gIsi_frz_list : gIsi [(.frz ds), .ty "list"] S Q = Q (.bl true) S := gIsi_of rfl (by decide +kernel)
theorem fIs_frz : fIs q (.frz ds) .non S Q = Q (.bl (q false)) S := by
  show (DV.non = .non ∧ Q (.bl (q false)) S) = _
  rw [eq_self, true_and]
theorem gIsi_dct_int : gIsi [.dct, .ty "int"] S Q = Q (.bl false) S := gIsi_of rfl (by decide +kernel)
theorem gIsi_dct_bool : gIsi [.dct, .ty "bool"] S Q = Q (.bl false) S := gIsi_of rfl (by decide +kernel)
theorem gIsi_dct_tuple : gIsi [.dct, .ty "tuple"] S Q = Q (.bl false) S := gIsi_of rfl (by decide +kernel)
theorem gIsi_dct_str : gIsi [.dct, .ty "str"] S Q = Q (.bl false) S := gIsi_of rfl (by decide +kernel)
theorem gIsi_dct_list : gIsi [.dct, .ty "list"] S Q = Q (.bl false) S := gIsi_of rfl (by decide +kernel)
theorem fIs_dct : fIs q .dct .non S Q = Q (.bl (q false)) S := by
  show (DV.non = .non ∧ Q (.bl (q false)) S) = _
  rw [eq_self, true_and]
end DL
/-! what the operators do with own things, step by step. -/
namespace DL
open PySem PySem.Spec PyProof.Rows L2 PySem.W
variable {a b c e o : ME} {δ : DEnv} {S : Store} {Q : MK DV} {E : MX} {D : EndsD} {g : GX} {Cs : List Str} {Ts : List String} {sb : Str → Str → Bool} {C f m : Str} {d x y : DV} {n i : Nat} {ma mb ms : MS} {cs : List Str} {sc : Str → Bool}
/-! ### Bags -/
abbrev bagD (d : DV) : DV := .ins "Bag" "row" d
end DL
/-! D layer, part 30: is not with bools; str of data. -/
namespace DL
open PySem PySem.Spec PyProof.Rows L2
end DL
/-! D layer, part 31: fields and items as targets in tuples; keyword calls; f-strings. -/
namespace DL
open PySem PySem.Spec PyProof.Rows L2
/-! ### targets -/
section
variable {X : Cx} {e o : Expr} {es : List Expr} {g : MG} {gs : List MG} {mo : ME} {pos : Pos} {f : Str} {Cs : List Str}
theorem PGs.imp {t t' : TGs} (h : PGs X es t) (i : ∀ vs σ H Q, t' vs σ H Q → t vs σ H Q) : PGs X es t' := ⟨fun pins s σ H vs us Q I r q => h.run pins s σ H vs us Q I r (i vs σ H Q q)⟩
end
/-! ### calls with keywords -/
/-- an own def that is called with n values and keywords ks -/
structure FunK (P : Program) (w : World) (K : PySem.W.Frag) (mg : Str → Option Value) (base : Heap) (cx : CXT) (k : Nat) (f : Addr) (n : Nat) (ks : List Str) (g : GX) : Prop where
  run : ∀ (A : Around) (outer : List Env) (s : Shared) (H : Hp) (us ws : List Value) (vs : List V) (Q : VK) (E : XK), Room k A → Env0 P w K mg base A outer s H → us.length = n → ws.length = ks.length → Vals vs (us ++ ws) → spD K (n + ks.length) g vs H Q E →
    codeAny (model P w) A (.call (.ref f) ⟨us, ks.zip ws⟩) (CR cx outer P w H s Q E) s
structure MetK (P : Program) (w : World) (K : PySem.W.Frag) (mg : Str → Option Value) (base : Heap) (cx : CXT) (k : Nat) (Cs : List Str) (m : Str) (n : Nat) (ks : List Str) (g : GX) : Prop where
  ex : ∃ f, (∀ C ∈ Cs, Cls K (He.ga K C) ∧ Meth K (He.ga K C) m f) ∧ FunK P w K mg base cx k f n ks g
section
variable {X : Cx} {W : WX} {cx : CXT} {k n : Nat} {g : GX} {Cs : List Str} {m : Str} {ks : List Str} {o e : Expr} {es : List Expr} {kws : List Keyword} {nm : Option Str} {pos apos kpos : Pos} {mo me : ME} {mas mks : MA}
theorem PK.imp {t t' : TA} (h : PK X kws t) (i : ∀ σ H Q, t' σ H Q → t σ H Q) : PK X kws t' := ⟨fun pos pins s σ H Q I q => h.run pos pins s σ H Q I (i σ H Q q)⟩
end
/-! ### f-strings -/
inductive DJ (X : Cx) (W : WX) : List Expr → List ME → Prop where
  | nil : DJ X W [] []
  | cons {e : Expr} {m : ME} {es : List Expr} {ms : List ME} (h : DE X W e m) (r : DJ X W es ms) : DJ X W (e :: es) (m :: ms)
section
variable {X : Cx} {W : WX} {e : Expr} {es : List Expr} {me : ME} {ms : List ME} {pos : Pos}
end
end DL
/-! D layer, part 32: several except clauses, with names and without; list(range). -/
namespace L2
open PySem PySem.Spec PyProof.Rows
inductive HdsMix (X : Cx) : List ExceptHandler → List (Value × Option Nat × (Addr → Value → Option Addr → TS)) → Prop
  | nil : HdsMix X [] []
  | only {x : Str} {c : Value} {ts : Addr → Value → Option Addr → TS} {b₀ : Stmt} {suite : List Stmt} {np pos' : Pos} {hds : List ExceptHandler} {l : List (Value × Option Nat × (Addr → Value → Option Addr → TS))} (hc : Names X x c)
      (hsu : ∀ (a : Addr) (oe : Obj) (cls : Value) (d : Option Addr) (pn : List (Addr × Obj)), Zc cls d oe → (∃ vs, oe.data = .fields vs) → PSs (X.suite a ((a, oe) :: pn)) (b₀ :: suite) (ts a cls d)) (r : HdsMix X hds l) :
      HdsMix X (.ExceptHandler (some (.Name x np)) none (b₀ :: suite) pos' :: hds) ((c, none, ts) :: l)
  | as {x n : Str} {i : Nat} {c : Value} {ts : Addr → Value → Option Addr → TS} {b₀ : Stmt} {suite : List Stmt} {np pos' : Pos} {hds : List ExceptHandler} {l : List (Value × Option Nat × (Addr → Value → Option Addr → TS))} (hi : X.N[i]? = some n) (hln : X.env.kindOf n = some .local) (hc : Names X x c)
      (hsu : ∀ (a : Addr) (oe : Obj) (cls : Value) (d : Option Addr) (pn : List (Addr × Obj)), Zc cls d oe → (∃ vs, oe.data = .fields vs) → PSs (X.suite a ((a, oe) :: pn)) (b₀ :: suite) (ts a cls d)) (r : HdsMix X hds l) :
      HdsMix X (.ExceptHandler (some (.Name x np)) (some n) (b₀ :: suite) pos' :: hds) ((c, some i, ts) :: l)
section
variable {X : Cx} {body : List Stmt} {h₀ : ExceptHandler} {hds : List ExceptHandler} {l : List (Value × Option Nat × (Addr → Value → Option Addr → TS))} {pos : Pos} {tb : WX → TS} {Wout : WX}
end
end L2
namespace DL
open PySem PySem.Spec PyProof.Rows L2
/-- a clause: its class, the word, the field and the slot of the name -/
abbrev Hd := Str × Str × Option (Str × Nat)
inductive DHs (X : Cx) : List ExceptHandler → List Hd → Prop
  | nil : DHs X [] []
  | only {cn w : Str} {np pos' q1 q3 q5 : Pos} {j : Nat} {hds : List ExceptHandler} {l : List Hd} (hm : X.mg cn = some (.ref (He.ga X.K cn))) (hg : Gl X cn) (hdb : (cn == ("__debug__" : Str)) = false) (r : DHs X hds l) :
      DHs X (.ExceptHandler (some (.Name cn np)) none [.Return (some (.List [.Constant (.str w) j q1] q3)) q5] pos' :: hds) ((cn, w, none) :: l)
  | as {cn w fl n : Str} {i j : Nat} {np pos' q1 q2 q3 q4 q5 : Pos} {hds : List ExceptHandler} {l : List Hd} (T : ExcF X.K X.mg cn fl) (hi : X.N[i]? = some n) (hln : X.env.kindOf n = some .local) (hg : Gl X cn) (hdb : (cn == ("__debug__" : Str)) = false)
      (hd : (n == ("__debug__" : Str)) = false) (hcd : (n == ("__classdict__" : Str)) = false) (hv : Vis X.env.scope n) (hab : attributeBase (.Name n q4) fl X.env (eval (.Name n q4) X.env) = eval (.Name n q4) X.env) (r : DHs X hds l) :
      DHs X (.ExceptHandler (some (.Name cn np)) (some n) [.Return (some (.List [.Constant (.str w) j q1, .Attribute (.Name n q4) fl q2] q3)) q5] pos' :: hds) ((cn, w, some (fl, i)) :: l)
section
variable {X : Cx} {W : WX}
/-! ### list(range(n)) -/
end
end DL
/-! D layer, part 33: exceptions over LookupError; families of classes; clauses' facts. -/
namespace DL
open PySem PySem.Spec PyProof.Rows L2 PySem.W
/-! ### a field set on a new exception of any base -/
section
open PySem.HandSPX Builtin Builtin.ObjectAttr
abbrev leTail : List Value := [.type "LookupError", .type "Exception", .type "BaseException", .type "object"]
variable {prog : Program} {w : World} {A : Around} {R : Result → Shared → Prop} {hp : Heap} {g : Array GenState} {d : Drawn} {t : Nat} {os : OsState}
end
/-! ### clauses -/
/-! ### families: the classes Cs have m from D -/
section
variable {P : Program} {w : World} {K : Frag} {mg : Str → Option Value} {base : Heap} {cx : CXT} {k n : Nat} {Cs : List Str} {D m f : Str} {ks : List Str} {g : GX}
end
/-! ### a tuple of any targets -/
/-! ### keywords -/
section
variable {P : Program} {w : World} {K : Frag} {mg : Str → Option Value} {base : Heap} {cx : CXT} {k n : Nat} {x qual : Str} {params : Arguments} {body : List Stmt} {scope : Scope} {kws : List (Str × V)} {f : Addr} {fd : FuncData} {ps ks : List Str} {g : GX}
end
end DL
/-! what desks need, step by step. -/
namespace DL
open PySem PySem.Spec PyProof.Rows L2 PySem.W
variable {a b c e o : ME} {δ : DEnv} {S : Store} {Q : MK DV} {E : MX} {D : EndsD} {g : GX} {Cs : List Str} {m : Str} {ms : List ME} {mb : MS} {cs : List Str} {hs : List Hd}
end DL
namespace LB
open PySem PySem.Spec PyProof.Rows L2 DL PySem.W
theorem STEPS : type_of% (And.intro (And.intro (And.intro (And.intro (And.intro (And.intro (And.intro @mBody_e (And.intro @startD_e @mNext_e)) (And.intro @mSeq_e (And.intro @mExpr_e @mRet_e))) (And.intro (And.intro @mRetN_e (And.intro @mIfS_e @mBreak_e)) (And.intro @mCont_e (And.intro @mSet_e @mAsg_e)))) (And.intro (And.intro (And.intro @mPar2_e (And.intro @mPar3_e @mVar_e)) (And.intro @slot_0 (And.intro @slot_s @mC_e))) (And.intro (And.intro @mOp_e (And.intro @mUn_e @mT_e)) (And.intro @mAnd_e (And.intro @mOr_e @mNot_e))))) (And.intro (And.intro (And.intro (And.intro @mAndV_e (And.intro @mOrV_e @mNotV_e)) (And.intro @mIf_e (And.intro @mTup_0 @mTup_1))) (And.intro (And.intro @mTup_2 (And.intro @mTup_3 @mLst_0)) (And.intro @mLst_1 (And.intro @mLst_2 @mLst_3)))) (And.intro (And.intro (And.intro @mLst_4 (And.intro @mCall_1 @mCall_2)) (And.intro @mCallF_1 (And.intro @mCallF_2 @mCallF_3))) (And.intro (And.intro @mCallF_4 (And.intro @mFor_e @iR1_e)) (And.intro (And.intro @iZ_e @iE_e) (And.intro @iS_e @mLc_e)))))) (And.intro (And.intro (And.intro (And.intro (And.intro @mLcO_e (And.intro @mYes_e @gTg_e)) (And.intro @bindT_nm (And.intro @bindT_1 @bindT_2))) (And.intro (And.intro @bindT_3 (And.intro @onEnv_s @onInt_i)) (And.intro @onBl_b (And.intro @onSeq_t @onSeq_l)))) (And.intro (And.intro (And.intro @onSeq_f (And.intro @onZip_t @onZip_l)) (And.intro @onEnum_t (And.intro @onEnum_l @onT_t))) (And.intro (And.intro @onT_f (And.intro @onSome_s @fAdd_ii)) (And.intro (And.intro @fAdd_tt @fAdd_ll) (And.intro @fAdd_ss @fSub_ii))))) (And.intro (And.intro (And.intro (And.intro @fMul_ii (And.intro @fMul_li @fDiv_ii)) (And.intro @fMod_ii (And.intro @fPow_ii @fNeg_i))) (And.intro (And.intro @fLe_ii (And.intro @fGt_ii @fGe_ii)) (And.intro @fLt_ii (And.intro @fEq_ii @fEq_ss)))) (And.intro (And.intro (And.intro @fEq_bb (And.intro @gLen_t @gLen_l)) (And.intro @gLen_f (And.intro @gInt_i @gInt_b))) (And.intro (And.intro @gBool_b (And.intro @gList_t @gList_l)) (And.intro (And.intro @gList_f @gTuple_t) (And.intro @gTuple_l @gSum_t))))))) (And.intro (And.intro (And.intro (And.intro (And.intro (And.intro @gSum_l (And.intro @fIx_t @fIx_l)) (And.intro @fIx_f (And.intro @fSl_t @fSl_l))) (And.intro (And.intro @fSl_f (And.intro @fRev_t @fRev_l)) (And.intro @wipeD_n (And.intro @wipeD_c @mPN_e)))) (And.intro (And.intro (And.intro @mPS_e (And.intro @mSl_e @mDct_e)) (And.intro @mChain_e (And.intro @gMax2_ii @fMulO_li))) (And.intro (And.intro @fMulT_e (And.intro @iR2_e @fEqN_l)) (And.intro @mLst_7 (And.intro @mLst_8 @mLst_9))))) (And.intro (And.intro (And.intro (And.intro @mLst_10 (And.intro @mLst_11 @mLst_12)) (And.intro @mLst_13 (And.intro @mLst_14 @mLst_15))) (And.intro (And.intro @mLst_16 (And.intro @mLst_17 @mLst_18)) (And.intro @mLst_19 (And.intro @mLst_20 @mDcx_e)))) (And.intro (And.intro (And.intro @mMeth_e (And.intro @mMeth0_e @tyM_str)) (And.intro @mLstO_0 (And.intro @mLstO_1 @mLstO_2))) (And.intro (And.intro @mLstO_3 (And.intro @mLstO_4 @mTup_4)) (And.intro (And.intro @mLstO_5 @mLst_5) (And.intro @mTup_5 @mLstO_6)))))) (And.intro (And.intro (And.intro (And.intro (And.intro @mLst_6 (And.intro @mTup_6 @gIsi_non_int)) (And.intro @gIsi_non_bool (And.intro @gIsi_non_tuple @gIsi_non_str))) (And.intro (And.intro @gIsi_non_list (And.intro @fIs_non @gIsi_bl_int)) (And.intro @gIsi_bl_bool (And.intro @gIsi_bl_tuple @gIsi_bl_str)))) (And.intro (And.intro (And.intro @gIsi_bl_list (And.intro @fIs_bl @gIsi_int_int)) (And.intro @gIsi_int_bool (And.intro @gIsi_int_tuple @gIsi_int_str))) (And.intro (And.intro @gIsi_int_list (And.intro @fIs_int @gIsi_str_int)) (And.intro (And.intro @gIsi_str_bool @gIsi_str_tuple) (And.intro @gIsi_str_str @gIsi_str_list))))) (And.intro (And.intro (And.intro (And.intro @fIs_str (And.intro @gIsi_tup_int @gIsi_tup_bool)) (And.intro @gIsi_tup_tuple (And.intro @gIsi_tup_str @gIsi_tup_list))) (And.intro (And.intro @fIs_tup (And.intro @gIsi_lst_int @gIsi_lst_bool)) (And.intro @gIsi_lst_tuple (And.intro @gIsi_lst_str @gIsi_lst_list)))) (And.intro (And.intro (And.intro @fIs_lst (And.intro @gIsi_frz_int @gIsi_frz_bool)) (And.intro @gIsi_frz_tuple (And.intro @gIsi_frz_str @gIsi_frz_list))) (And.intro (And.intro @fIs_frz (And.intro @gIsi_dct_int @gIsi_dct_bool)) (And.intro (And.intro @gIsi_dct_tuple @gIsi_dct_str) (And.intro @gIsi_dct_list @fIs_dct)))))))) := (And.intro (And.intro (And.intro (And.intro (And.intro (And.intro (And.intro @mBody_e (And.intro @startD_e @mNext_e)) (And.intro @mSeq_e (And.intro @mExpr_e @mRet_e))) (And.intro (And.intro @mRetN_e (And.intro @mIfS_e @mBreak_e)) (And.intro @mCont_e (And.intro @mSet_e @mAsg_e)))) (And.intro (And.intro (And.intro @mPar2_e (And.intro @mPar3_e @mVar_e)) (And.intro @slot_0 (And.intro @slot_s @mC_e))) (And.intro (And.intro @mOp_e (And.intro @mUn_e @mT_e)) (And.intro @mAnd_e (And.intro @mOr_e @mNot_e))))) (And.intro (And.intro (And.intro (And.intro @mAndV_e (And.intro @mOrV_e @mNotV_e)) (And.intro @mIf_e (And.intro @mTup_0 @mTup_1))) (And.intro (And.intro @mTup_2 (And.intro @mTup_3 @mLst_0)) (And.intro @mLst_1 (And.intro @mLst_2 @mLst_3)))) (And.intro (And.intro (And.intro @mLst_4 (And.intro @mCall_1 @mCall_2)) (And.intro @mCallF_1 (And.intro @mCallF_2 @mCallF_3))) (And.intro (And.intro @mCallF_4 (And.intro @mFor_e @iR1_e)) (And.intro (And.intro @iZ_e @iE_e) (And.intro @iS_e @mLc_e)))))) (And.intro (And.intro (And.intro (And.intro (And.intro @mLcO_e (And.intro @mYes_e @gTg_e)) (And.intro @bindT_nm (And.intro @bindT_1 @bindT_2))) (And.intro (And.intro @bindT_3 (And.intro @onEnv_s @onInt_i)) (And.intro @onBl_b (And.intro @onSeq_t @onSeq_l)))) (And.intro (And.intro (And.intro @onSeq_f (And.intro @onZip_t @onZip_l)) (And.intro @onEnum_t (And.intro @onEnum_l @onT_t))) (And.intro (And.intro @onT_f (And.intro @onSome_s @fAdd_ii)) (And.intro (And.intro @fAdd_tt @fAdd_ll) (And.intro @fAdd_ss @fSub_ii))))) (And.intro (And.intro (And.intro (And.intro @fMul_ii (And.intro @fMul_li @fDiv_ii)) (And.intro @fMod_ii (And.intro @fPow_ii @fNeg_i))) (And.intro (And.intro @fLe_ii (And.intro @fGt_ii @fGe_ii)) (And.intro @fLt_ii (And.intro @fEq_ii @fEq_ss)))) (And.intro (And.intro (And.intro @fEq_bb (And.intro @gLen_t @gLen_l)) (And.intro @gLen_f (And.intro @gInt_i @gInt_b))) (And.intro (And.intro @gBool_b (And.intro @gList_t @gList_l)) (And.intro (And.intro @gList_f @gTuple_t) (And.intro @gTuple_l @gSum_t))))))) (And.intro (And.intro (And.intro (And.intro (And.intro (And.intro @gSum_l (And.intro @fIx_t @fIx_l)) (And.intro @fIx_f (And.intro @fSl_t @fSl_l))) (And.intro (And.intro @fSl_f (And.intro @fRev_t @fRev_l)) (And.intro @wipeD_n (And.intro @wipeD_c @mPN_e)))) (And.intro (And.intro (And.intro @mPS_e (And.intro @mSl_e @mDct_e)) (And.intro @mChain_e (And.intro @gMax2_ii @fMulO_li))) (And.intro (And.intro @fMulT_e (And.intro @iR2_e @fEqN_l)) (And.intro @mLst_7 (And.intro @mLst_8 @mLst_9))))) (And.intro (And.intro (And.intro (And.intro @mLst_10 (And.intro @mLst_11 @mLst_12)) (And.intro @mLst_13 (And.intro @mLst_14 @mLst_15))) (And.intro (And.intro @mLst_16 (And.intro @mLst_17 @mLst_18)) (And.intro @mLst_19 (And.intro @mLst_20 @mDcx_e)))) (And.intro (And.intro (And.intro @mMeth_e (And.intro @mMeth0_e @tyM_str)) (And.intro @mLstO_0 (And.intro @mLstO_1 @mLstO_2))) (And.intro (And.intro @mLstO_3 (And.intro @mLstO_4 @mTup_4)) (And.intro (And.intro @mLstO_5 @mLst_5) (And.intro @mTup_5 @mLstO_6)))))) (And.intro (And.intro (And.intro (And.intro (And.intro @mLst_6 (And.intro @mTup_6 @gIsi_non_int)) (And.intro @gIsi_non_bool (And.intro @gIsi_non_tuple @gIsi_non_str))) (And.intro (And.intro @gIsi_non_list (And.intro @fIs_non @gIsi_bl_int)) (And.intro @gIsi_bl_bool (And.intro @gIsi_bl_tuple @gIsi_bl_str)))) (And.intro (And.intro (And.intro @gIsi_bl_list (And.intro @fIs_bl @gIsi_int_int)) (And.intro @gIsi_int_bool (And.intro @gIsi_int_tuple @gIsi_int_str))) (And.intro (And.intro @gIsi_int_list (And.intro @fIs_int @gIsi_str_int)) (And.intro (And.intro @gIsi_str_bool @gIsi_str_tuple) (And.intro @gIsi_str_str @gIsi_str_list))))) (And.intro (And.intro (And.intro (And.intro @fIs_str (And.intro @gIsi_tup_int @gIsi_tup_bool)) (And.intro @gIsi_tup_tuple (And.intro @gIsi_tup_str @gIsi_tup_list))) (And.intro (And.intro @fIs_tup (And.intro @gIsi_lst_int @gIsi_lst_bool)) (And.intro @gIsi_lst_tuple (And.intro @gIsi_lst_str @gIsi_lst_list)))) (And.intro (And.intro (And.intro @fIs_lst (And.intro @gIsi_frz_int @gIsi_frz_bool)) (And.intro @gIsi_frz_tuple (And.intro @gIsi_frz_str @gIsi_frz_list))) (And.intro (And.intro @fIs_frz (And.intro @gIsi_dct_int @gIsi_dct_bool)) (And.intro (And.intro @gIsi_dct_tuple @gIsi_dct_str) (And.intro @gIsi_dct_list @fIs_dct))))))))
end LB
namespace LB
open PySem PySem.Spec PyProof.Rows L2 DL
noncomputable def r__law_deck_1 : MS := shut ((mRet (mLstO (mCons (mVar 1) (mCons (mC (.int 0)) (mCons (mLcO (iS (mVar 1)) (.nm 2) mYes (mOp fMul (mVar 2) (mCall gInt (mCons (mOp fGe (mVar 2) (mOp fPow (mC (.int 10)) (mC (.int 18)))) mNil))) [2]) mNil))))))
theorem r__law_deck_1_e : r__law_deck_1 = (mRet (mLstO (mCons (mVar 1) (mCons (mC (.int 0)) (mCons (mLcO (iS (mVar 1)) (.nm 2) mYes (mOp fMul (mVar 2) (mCall gInt (mCons (mOp fGe (mVar 2) (mOp fPow (mC (.int 10)) (mC (.int 18)))) mNil))) [2]) mNil))))) := shut_eq _
noncomputable def b__law_deck : MS := shut ((mSeq (mSet 1 (mOp fAdd (mCall gList (mCons (mSl fSl (mVar 0) mPN (mPS (mC (.int 63)))) mNil)) (mOp fMul (mLst (mCons (mC (.int 0)) mNil)) (mCall gInt (mCons (mOp (fEq fun b => b) (mCall gLen (mCons (mVar 0) mNil)) (mC (.int 0))) mNil)))))
  r__law_deck_1))
theorem b__law_deck_e : b__law_deck = (mSeq (mSet 1 (mOp fAdd (mCall gList (mCons (mSl fSl (mVar 0) mPN (mPS (mC (.int 63)))) mNil)) (mOp fMul (mLst (mCons (mC (.int 0)) mNil)) (mCall gInt (mCons (mOp (fEq fun b => b) (mCall gLen (mCons (mVar 0) mNil)) (mC (.int 0))) mNil)))))
  r__law_deck_1) := shut_eq _
noncomputable def m__law_deck : GX := shut (mBody 3 b__law_deck)
theorem m__law_deck_e : m__law_deck = mBody 3 b__law_deck := shut_eq _
noncomputable def r__law_draw_1 : MS := shut ((mRet (mVar 6)))
theorem r__law_draw_1_e : r__law_draw_1 = (mRet (mVar 6)) := shut_eq _
noncomputable def r__law_draw_2 : MS := shut ((mSeq (mAsg (mOp fDiv (mOp fIx (mVar 4) (mVar 5)) (mVar 1)) (gSetL (mVar 4) (mVar 5)))
  r__law_draw_1))
theorem r__law_draw_2_e : r__law_draw_2 = (mSeq (mAsg (mOp fDiv (mOp fIx (mVar 4) (mVar 5)) (mVar 1)) (gSetL (mVar 4) (mVar 5)))
  r__law_draw_1) := shut_eq _
noncomputable def r__law_draw_3 : MS := shut ((mRet (mOp fMod (mOp fMod (mCall gInt (mCons (mOp fAdd (mOp fMul (mVar 8) (mC (.int 2147483399))) (mVar 7)) mNil)) (mC (.int 4611686018427387847))) (mVar 1))))
theorem r__law_draw_3_e : r__law_draw_3 = (mRet (mOp fMod (mOp fMod (mCall gInt (mCons (mOp fAdd (mOp fMul (mVar 8) (mC (.int 2147483399))) (mVar 7)) mNil)) (mC (.int 4611686018427387847))) (mVar 1))) := shut_eq _
noncomputable def r__law_draw_4 : MS := shut ((mSeq (mSet 8 (mOp fMod (mOp fPow (mOp fAdd (mOp fAdd (mVar 7) (mOp fMul (mC (.int 7919)) (mVar 3))) (mC (.int 13))) (mC (.int 3))) (mC (.int 2147483423))))
  r__law_draw_3))
theorem r__law_draw_4_e : r__law_draw_4 = (mSeq (mSet 8 (mOp fMod (mOp fPow (mOp fAdd (mOp fAdd (mVar 7) (mOp fMul (mC (.int 7919)) (mVar 3))) (mC (.int 13))) (mC (.int 3))) (mC (.int 2147483423))))
  r__law_draw_3) := shut_eq _
noncomputable def r__law_draw_5 : MS := shut ((mSeq (mSet 7 (mOp fMod (mOp fPow (mOp fAdd (mOp fAdd (mOp fMod (mCall gInt (mCons (mOp fIx (mVar 2) (mVar 5)) mNil)) (mC (.int 2147483543))) (mOp fMul (mC (.int 75979)) (mVar 3))) (mC (.int 4481))) (mC (.int 3))) (mC (.int 2147483497))))
  r__law_draw_4))
theorem r__law_draw_5_e : r__law_draw_5 = (mSeq (mSet 7 (mOp fMod (mOp fPow (mOp fAdd (mOp fAdd (mOp fMod (mCall gInt (mCons (mOp fIx (mVar 2) (mVar 5)) mNil)) (mC (.int 2147483543))) (mOp fMul (mC (.int 75979)) (mVar 3))) (mC (.int 4481))) (mC (.int 3))) (mC (.int 2147483497))))
  r__law_draw_4) := shut_eq _
noncomputable def r__law_draw_6 : MS := shut ((mSeq (mIfS (mT (mOp fGt (mOp fIx (mVar 4) (mVar 5)) (mC (.int 0)))) (mSeq (mSet 6 (mOp fMod (mCall gInt (mCons (mOp fIx (mVar 4) (mVar 5)) mNil)) (mVar 1)))
  r__law_draw_2) mNext)
  r__law_draw_5))
theorem r__law_draw_6_e : r__law_draw_6 = (mSeq (mIfS (mT (mOp fGt (mOp fIx (mVar 4) (mVar 5)) (mC (.int 0)))) (mSeq (mSet 6 (mOp fMod (mCall gInt (mCons (mOp fIx (mVar 4) (mVar 5)) mNil)) (mVar 1)))
  r__law_draw_2) mNext)
  r__law_draw_5) := shut_eq _
noncomputable def r__law_draw_7 : MS := shut ((mSeq (mAsg (mOp fAdd (mVar 3) (mC (.int 1))) (gSetL (mVar 0) (mC (.int 1))))
  r__law_draw_6))
theorem r__law_draw_7_e : r__law_draw_7 = (mSeq (mAsg (mOp fAdd (mVar 3) (mC (.int 1))) (gSetL (mVar 0) (mC (.int 1))))
  r__law_draw_6) := shut_eq _
noncomputable def r__law_draw_8 : MS := shut ((mSeq (mSet 5 (mOp fMod (mCall gInt (mCons (mVar 3) mNil)) (mCall gLen (mCons (mVar 2) mNil))))
  r__law_draw_7))
theorem r__law_draw_8_e : r__law_draw_8 = (mSeq (mSet 5 (mOp fMod (mCall gInt (mCons (mVar 3) mNil)) (mCall gLen (mCons (mVar 2) mNil))))
  r__law_draw_7) := shut_eq _
noncomputable def b__law_draw : MS := shut ((mSeq (mAsg (mVar 0) (gUnL [(.nm 2), (.nm 3), (.nm 4)]))
  r__law_draw_8))
theorem b__law_draw_e : b__law_draw = (mSeq (mAsg (mVar 0) (gUnL [(.nm 2), (.nm 3), (.nm 4)]))
  r__law_draw_8) := shut_eq _
noncomputable def m__law_draw : GX := shut (mBody 9 b__law_draw)
theorem m__law_draw_e : m__law_draw = mBody 9 b__law_draw := shut_eq _
noncomputable def b__law_one : MS := shut ((mRet (mOp fIx (mVar 1) (mCallF 2 m__law_draw (mCons (mVar 0) (mCons (mCall gLen (mCons (mVar 1) mNil)) mNil))))))
theorem b__law_one_e : b__law_one = (mRet (mOp fIx (mVar 1) (mCallF 2 m__law_draw (mCons (mVar 0) (mCons (mCall gLen (mCons (mVar 1) mNil)) mNil))))) := shut_eq _
noncomputable def m__law_one : GX := shut (mBody 2 b__law_one)
theorem m__law_one_e : m__law_one = mBody 2 b__law_one := shut_eq _
noncomputable def b__law_bag : MS := shut ((mRet (mCall gTuple (mCons (mLc (iR1 (mCons (mVar 1) mNil)) (.nm 3) mYes (mCallF 2 m__law_draw (mCons (mVar 0) (mCons (mOp fAdd (mVar 2) (mC (.int 1))) mNil))) [3]) mNil))))
theorem b__law_bag_e : b__law_bag = (mRet (mCall gTuple (mCons (mLc (iR1 (mCons (mVar 1) mNil)) (.nm 3) mYes (mCallF 2 m__law_draw (mCons (mVar 0) (mCons (mOp fAdd (mVar 2) (mC (.int 1))) mNil))) [3]) mNil))) := shut_eq _
noncomputable def m__law_bag : GX := shut (mBody 4 b__law_bag)
theorem m__law_bag_e : m__law_bag = mBody 4 b__law_bag := shut_eq _
noncomputable def r__law_side_1 : MS := shut ((mAsg (mOp fAdd (mOp fIx (mVar 3) (mVar 5)) (mCall gInt (mCons (mOp fLt (mOp fIx (mVar 3) (mVar 5)) (mC (.int 3))) mNil))) (gSetL (mVar 3) (mVar 5))))
theorem r__law_side_1_e : r__law_side_1 = (mAsg (mOp fAdd (mOp fIx (mVar 3) (mVar 5)) (mCall gInt (mCons (mOp fLt (mOp fIx (mVar 3) (mVar 5)) (mC (.int 3))) mNil))) (gSetL (mVar 3) (mVar 5))) := shut_eq _
noncomputable def f__law_side_1 : MS := shut ((mSeq (mSet 5 (mCallF 2 m__law_draw (mCons (mVar 0) (mCons (mVar 1) mNil))))
  r__law_side_1))
theorem f__law_side_1_e : f__law_side_1 = (mSeq (mSet 5 (mCallF 2 m__law_draw (mCons (mVar 0) (mCons (mVar 1) mNil))))
  r__law_side_1) := shut_eq _
noncomputable def r__law_side_2 : MS := shut ((mRet (mCall gTuple (mCons (mVar 3) mNil))))
theorem r__law_side_2_e : r__law_side_2 = (mRet (mCall gTuple (mCons (mVar 3) mNil))) := shut_eq _
noncomputable def r__law_side_3 : MS := shut ((mSeq (mFor (iR1 (mCons (mCallF 2 m__law_draw (mCons (mVar 0) (mCons (mOp fAdd (mVar 2) (mC (.int 1))) mNil))) mNil)) (gTg (.nm 4)) f__law_side_1)
  r__law_side_2))
theorem r__law_side_3_e : r__law_side_3 = (mSeq (mFor (iR1 (mCons (mCallF 2 m__law_draw (mCons (mVar 0) (mCons (mOp fAdd (mVar 2) (mC (.int 1))) mNil))) mNil)) (gTg (.nm 4)) f__law_side_1)
  r__law_side_2) := shut_eq _
noncomputable def b__law_side : MS := shut ((mSeq (mSet 3 (mOp fMulO (mLst (mCons (mC (.int 0)) mNil)) (mVar 1)))
  r__law_side_3))
theorem b__law_side_e : b__law_side = (mSeq (mSet 3 (mOp fMulO (mLst (mCons (mC (.int 0)) mNil)) (mVar 1)))
  r__law_side_3) := shut_eq _
noncomputable def m__law_side : GX := shut (mBody 6 b__law_side)
theorem m__law_side_e : m__law_side = mBody 6 b__law_side := shut_eq _
noncomputable def b__law_plus : MS := shut ((mRet (mCall gTuple (mCons (mLc (iZ (mCons (mVar 0) (mCons (mVar 1) mNil))) (.tp [(.nm 2), (.nm 3)]) mYes (mOp fAdd (mVar 2) (mVar 3)) [2, 3]) mNil))))
theorem b__law_plus_e : b__law_plus = (mRet (mCall gTuple (mCons (mLc (iZ (mCons (mVar 0) (mCons (mVar 1) mNil))) (.tp [(.nm 2), (.nm 3)]) mYes (mOp fAdd (mVar 2) (mVar 3)) [2, 3]) mNil))) := shut_eq _
noncomputable def m__law_plus : GX := shut (mBody 4 b__law_plus)
theorem m__law_plus_e : m__law_plus = mBody 4 b__law_plus := shut_eq _
noncomputable def r__law_trade_1 : MS := shut ((mRet (mIf (mT (mOp fLt (mVar 4) (mC (.int 2)))) (mTup (mCons (mCallF 2 m__law_plus (mCons (mVar 6) (mCons (mVar 5) mNil))) (mCons (mCallF 2 m__law_plus (mCons (mVar 7) (mCons (mVar 5) mNil))) mNil))) (mTup (mCons (mCallF 2 m__law_plus (mCons (mVar 6) (mCons (mVar 5) mNil))) (mCons (mVar 5) mNil))))))
theorem r__law_trade_1_e : r__law_trade_1 = (mRet (mIf (mT (mOp fLt (mVar 4) (mC (.int 2)))) (mTup (mCons (mCallF 2 m__law_plus (mCons (mVar 6) (mCons (mVar 5) mNil))) (mCons (mCallF 2 m__law_plus (mCons (mVar 7) (mCons (mVar 5) mNil))) mNil))) (mTup (mCons (mCallF 2 m__law_plus (mCons (mVar 6) (mCons (mVar 5) mNil))) (mCons (mVar 5) mNil))))) := shut_eq _
noncomputable def r__law_trade_2 : MS := shut ((mSeq (mPar2 6 7 (mCons (mCallF 3 m__law_side (mCons (mVar 0) (mCons (mVar 1) (mCons (mC (.int 1)) mNil)))) (mCons (mCallF 3 m__law_side (mCons (mVar 0) (mCons (mVar 1) (mCons (mC (.int 2)) mNil)))) mNil)))
  r__law_trade_1))
theorem r__law_trade_2_e : r__law_trade_2 = (mSeq (mPar2 6 7 (mCons (mCallF 3 m__law_side (mCons (mVar 0) (mCons (mVar 1) (mCons (mC (.int 1)) mNil)))) (mCons (mCallF 3 m__law_side (mCons (mVar 0) (mCons (mVar 1) (mCons (mC (.int 2)) mNil)))) mNil)))
  r__law_trade_1) := shut_eq _
noncomputable def r__law_trade_3 : MS := shut ((mSeq (mSet 5 (mCall gTuple (mCons (mLc (iR1 (mCons (mVar 1) mNil)) (.nm 8) mYes (mOp fMul (mVar 4) (mCall gInt (mCons (mOp (fEq fun b => b) (mVar 8) (mVar 3)) mNil))) [8]) mNil)))
  r__law_trade_2))
theorem r__law_trade_3_e : r__law_trade_3 = (mSeq (mSet 5 (mCall gTuple (mCons (mLc (iR1 (mCons (mVar 1) mNil)) (.nm 8) mYes (mOp fMul (mVar 4) (mCall gInt (mCons (mOp (fEq fun b => b) (mVar 8) (mVar 3)) mNil))) [8]) mNil)))
  r__law_trade_2) := shut_eq _
noncomputable def r__law_trade_4 : MS := shut ((mSeq (mAsg (mTup (mCons (mCallF 2 m__law_draw (mCons (mVar 0) (mCons (mVar 1) mNil))) (mCons (mOp fAdd (mC (.int 1)) (mCallF 2 m__law_draw (mCons (mVar 0) (mCons (mOp fSub (mVar 2) (mC (.int 2))) mNil)))) mNil))) (gTg (.tp [(.nm 3), (.nm 4)])))
  r__law_trade_3))
theorem r__law_trade_4_e : r__law_trade_4 = (mSeq (mAsg (mTup (mCons (mCallF 2 m__law_draw (mCons (mVar 0) (mCons (mVar 1) mNil))) (mCons (mOp fAdd (mC (.int 1)) (mCallF 2 m__law_draw (mCons (mVar 0) (mCons (mOp fSub (mVar 2) (mC (.int 2))) mNil)))) mNil))) (gTg (.tp [(.nm 3), (.nm 4)])))
  r__law_trade_3) := shut_eq _
noncomputable def b__law_trade : MS := shut ((mSeq (mIfS (mOr (mT (mOp fLt (mVar 2) (mC (.int 3)))) (mT (mOp (fEq fun b => b) (mCallF 2 m__law_draw (mCons (mVar 0) (mCons (mC (.int 2)) mNil))) (mC (.int 0))))) (mRet (mTup (mCons (mCallF 3 m__law_side (mCons (mVar 0) (mCons (mVar 1) (mCons (mVar 2) mNil)))) (mCons (mCallF 3 m__law_side (mCons (mVar 0) (mCons (mVar 1) (mCons (mVar 2) mNil)))) mNil)))) mNext)
  r__law_trade_4))
theorem b__law_trade_e : b__law_trade = (mSeq (mIfS (mOr (mT (mOp fLt (mVar 2) (mC (.int 3)))) (mT (mOp (fEq fun b => b) (mCallF 2 m__law_draw (mCons (mVar 0) (mCons (mC (.int 2)) mNil))) (mC (.int 0))))) (mRet (mTup (mCons (mCallF 3 m__law_side (mCons (mVar 0) (mCons (mVar 1) (mCons (mVar 2) mNil)))) (mCons (mCallF 3 m__law_side (mCons (mVar 0) (mCons (mVar 1) (mCons (mVar 2) mNil)))) mNil)))) mNext)
  r__law_trade_4) := shut_eq _
noncomputable def m__law_trade : GX := shut (mBody 9 b__law_trade)
theorem m__law_trade_e : m__law_trade = mBody 9 b__law_trade := shut_eq _
noncomputable def b__law_market : MS := shut ((mRet (mTup (mCons (mVar 1) (mCons (mCall gTuple (mCons (mLc (iR1 (mCons (mCallF 2 m__law_draw (mCons (mVar 0) (mCons (mOp fAdd (mVar 2) (mC (.int 1))) mNil))) mNil)) (.nm 4) mYes (mCallF 3 m__law_trade (mCons (mVar 0) (mCons (mVar 1) (mCons (mVar 3) mNil)))) [4]) mNil)) mNil)))))
theorem b__law_market_e : b__law_market = (mRet (mTup (mCons (mVar 1) (mCons (mCall gTuple (mCons (mLc (iR1 (mCons (mCallF 2 m__law_draw (mCons (mVar 0) (mCons (mOp fAdd (mVar 2) (mC (.int 1))) mNil))) mNil)) (.nm 4) mYes (mCallF 3 m__law_trade (mCons (mVar 0) (mCons (mVar 1) (mCons (mVar 3) mNil)))) [4]) mNil)) mNil)))) := shut_eq _
noncomputable def m__law_market : GX := shut (mBody 5 b__law_market)
theorem m__law_market_e : m__law_market = mBody 5 b__law_market := shut_eq _
noncomputable def r__law_any_market_1 : MS := shut ((mRet (mCallF 4 m__law_market (mCons (mVar 0) (mCons (mVar 1) (mCons (mIf (mT (mOp fLt (mVar 1) (mC (.int 3)))) (mC (.int 4)) (mOp fSub (mC (.int 5)) (mVar 1))) (mCons (mIf (mT (mOp fLt (mVar 1) (mC (.int 3)))) (mC (.int 4)) (mC (.int 3))) mNil)))))))
theorem r__law_any_market_1_e : r__law_any_market_1 = (mRet (mCallF 4 m__law_market (mCons (mVar 0) (mCons (mVar 1) (mCons (mIf (mT (mOp fLt (mVar 1) (mC (.int 3)))) (mC (.int 4)) (mOp fSub (mC (.int 5)) (mVar 1))) (mCons (mIf (mT (mOp fLt (mVar 1) (mC (.int 3)))) (mC (.int 4)) (mC (.int 3))) mNil)))))) := shut_eq _
noncomputable def b__law_any_market : MS := shut ((mSeq (mSet 1 (mOp fAdd (mC (.int 1)) (mCallF 2 m__law_draw (mCons (mVar 0) (mCons (mC (.int 4)) mNil)))))
  r__law_any_market_1))
theorem b__law_any_market_e : b__law_any_market = (mSeq (mSet 1 (mOp fAdd (mC (.int 1)) (mCallF 2 m__law_draw (mCons (mVar 0) (mCons (mC (.int 4)) mNil)))))
  r__law_any_market_1) := shut_eq _
noncomputable def m__law_any_market : GX := shut (mBody 2 b__law_any_market)
theorem m__law_any_market_e : m__law_any_market = mBody 2 b__law_any_market := shut_eq _
noncomputable def b__law_less : MS := shut ((mRet (mCall gTuple (mCons (mLc (iZ (mCons (mVar 0) (mCons (mVar 1) mNil))) (.tp [(.nm 2), (.nm 3)]) mYes (mOp fSub (mVar 2) (mVar 3)) [2, 3]) mNil))))
theorem b__law_less_e : b__law_less = (mRet (mCall gTuple (mCons (mLc (iZ (mCons (mVar 0) (mCons (mVar 1) mNil))) (.tp [(.nm 2), (.nm 3)]) mYes (mOp fSub (mVar 2) (mVar 3)) [2, 3]) mNil))) := shut_eq _
noncomputable def m__law_less : GX := shut (mBody 4 b__law_less)
theorem m__law_less_e : m__law_less = mBody 4 b__law_less := shut_eq _
noncomputable def b__law_holds : MS := shut ((mRet (mOp (fEqN fun b => b) (mLc (iZ (mCons (mVar 0) (mCons (mVar 1) mNil))) (.tp [(.nm 2), (.nm 3)]) (mT (mOp fLt (mVar 2) (mVar 3))) (mVar 2) [2, 3]) (mLst mNil))))
theorem b__law_holds_e : b__law_holds = (mRet (mOp (fEqN fun b => b) (mLc (iZ (mCons (mVar 0) (mCons (mVar 1) mNil))) (.tp [(.nm 2), (.nm 3)]) (mT (mOp fLt (mVar 2) (mVar 3))) (mVar 2) [2, 3]) (mLst mNil))) := shut_eq _
noncomputable def m__law_holds : GX := shut (mBody 4 b__law_holds)
theorem m__law_holds_e : m__law_holds = mBody 4 b__law_holds := shut_eq _
end LB
namespace LB
open PySem PySem.Spec PyProof.Rows L2 DL
end LB
namespace LB
open PySem PySem.Spec PyProof.Rows L2 DL
noncomputable def b_plus : MS := shut ((mRet (mCall gTuple (mCons (mLc (iZ (mCons (mVar 0) (mCons (mVar 1) mNil))) (.tp [(.nm 2), (.nm 3)]) mYes (mOp fAdd (mVar 2) (mVar 3)) [2, 3]) mNil))))
theorem b_plus_e : b_plus = (mRet (mCall gTuple (mCons (mLc (iZ (mCons (mVar 0) (mCons (mVar 1) mNil))) (.tp [(.nm 2), (.nm 3)]) mYes (mOp fAdd (mVar 2) (mVar 3)) [2, 3]) mNil))) := shut_eq _
noncomputable def m_plus : GX := shut (mBody 4 b_plus)
theorem m_plus_e : m_plus = mBody 4 b_plus := shut_eq _
noncomputable def b_minus : MS := shut ((mRet (mCall gTuple (mCons (mLc (iZ (mCons (mVar 0) (mCons (mVar 1) mNil))) (.tp [(.nm 2), (.nm 3)]) mYes (mOp fSub (mVar 2) (mVar 3)) [2, 3]) mNil))))
theorem b_minus_e : b_minus = (mRet (mCall gTuple (mCons (mLc (iZ (mCons (mVar 0) (mCons (mVar 1) mNil))) (.tp [(.nm 2), (.nm 3)]) mYes (mOp fSub (mVar 2) (mVar 3)) [2, 3]) mNil))) := shut_eq _
noncomputable def m_minus : GX := shut (mBody 4 b_minus)
theorem m_minus_e : m_minus = mBody 4 b_minus := shut_eq _
noncomputable def f_holds_1 : MS := shut ((mIfS (mT (mOp fLt (mVar 2) (mVar 3))) (mRet (mC (.bl false))) mNext))
theorem f_holds_1_e : f_holds_1 = (mIfS (mT (mOp fLt (mVar 2) (mVar 3))) (mRet (mC (.bl false))) mNext) := shut_eq _
noncomputable def r_holds_1 : MS := shut ((mRet (mC (.bl true))))
theorem r_holds_1_e : r_holds_1 = (mRet (mC (.bl true))) := shut_eq _
noncomputable def b_holds : MS := shut ((mSeq (mFor (iZ (mCons (mVar 0) (mCons (mVar 1) mNil))) (gTg (.tp [(.nm 2), (.nm 3)])) f_holds_1)
  r_holds_1))
theorem b_holds_e : b_holds = (mSeq (mFor (iZ (mCons (mVar 0) (mCons (mVar 1) mNil))) (gTg (.tp [(.nm 2), (.nm 3)])) f_holds_1)
  r_holds_1) := shut_eq _
noncomputable def m_holds : GX := shut (mBody 4 b_holds)
theorem m_holds_e : m_holds = mBody 4 b_holds := shut_eq _
noncomputable def b_sides : MS := shut ((mRet (mIf (mT (mVar 1)) (mTup (mCons (mOp fIx (mVar 0) (mC (.int 1))) (mCons (mOp fIx (mVar 0) (mC (.int 0))) mNil))) (mTup (mCons (mOp fIx (mVar 0) (mC (.int 0))) (mCons (mOp fIx (mVar 0) (mC (.int 1))) mNil))))))
theorem b_sides_e : b_sides = (mRet (mIf (mT (mVar 1)) (mTup (mCons (mOp fIx (mVar 0) (mC (.int 1))) (mCons (mOp fIx (mVar 0) (mC (.int 0))) mNil))) (mTup (mCons (mOp fIx (mVar 0) (mC (.int 0))) (mCons (mOp fIx (mVar 0) (mC (.int 1))) mNil))))) := shut_eq _
noncomputable def m_sides : GX := shut (mBody 2 b_sides)
theorem m_sides_e : m_sides = mBody 2 b_sides := shut_eq _
noncomputable def r_moved_1 : MS := shut ((mRet (mCallF 2 m_plus (mCons (mCallF 2 m_minus (mCons (mVar 1) (mCons (mVar 3) mNil))) (mCons (mVar 4) mNil)))))
theorem r_moved_1_e : r_moved_1 = (mRet (mCallF 2 m_plus (mCons (mCallF 2 m_minus (mCons (mVar 1) (mCons (mVar 3) mNil))) (mCons (mVar 4) mNil)))) := shut_eq _
noncomputable def r_moved_2 : MS := shut ((mSeq (mIfS (mNot (mT (mCallF 2 m_holds (mCons (mVar 1) (mCons (mVar 3) mNil))))) (mRet (mC .non)) mNext)
  r_moved_1))
theorem r_moved_2_e : r_moved_2 = (mSeq (mIfS (mNot (mT (mCallF 2 m_holds (mCons (mVar 1) (mCons (mVar 3) mNil))))) (mRet (mC .non)) mNext)
  r_moved_1) := shut_eq _
noncomputable def b_moved : MS := shut ((mSeq (mAsg (mCallF 2 m_sides (mCons (mOp fIx (mVar 0) (mOp fIx (mVar 2) (mC (.int 0)))) (mCons (mOp fIx (mVar 2) (mC (.int 1))) mNil))) (gTg (.tp [(.nm 3), (.nm 4)])))
  r_moved_2))
theorem b_moved_e : b_moved = (mSeq (mAsg (mCallF 2 m_sides (mCons (mOp fIx (mVar 0) (mOp fIx (mVar 2) (mC (.int 0)))) (mCons (mOp fIx (mVar 2) (mC (.int 1))) mNil))) (gTg (.tp [(.nm 3), (.nm 4)])))
  r_moved_2) := shut_eq _
noncomputable def m_moved : GX := shut (mBody 5 b_moved)
theorem m_moved_e : m_moved = mBody 5 b_moved := shut_eq _
noncomputable def r__law_behind_1 : MS := shut ((mRet (mIf (mT (mCallF 2 m__law_holds (mCons (mVar 1) (mCons (mVar 4) mNil)))) (mCallF 2 m__law_plus (mCons (mCallF 2 m__law_less (mCons (mVar 1) (mCons (mVar 4) mNil))) (mCons (mVar 5) mNil))) (mC .non))))
theorem r__law_behind_1_e : r__law_behind_1 = (mRet (mIf (mT (mCallF 2 m__law_holds (mCons (mVar 1) (mCons (mVar 4) mNil)))) (mCallF 2 m__law_plus (mCons (mCallF 2 m__law_less (mCons (mVar 1) (mCons (mVar 4) mNil))) (mCons (mVar 5) mNil))) (mC .non))) := shut_eq _
noncomputable def b__law_behind : MS := shut ((mSeq (mAsg (mIf (mT (mVar 3)) (mTup (mCons (mOp fIx (mOp fIx (mVar 0) (mVar 2)) (mC (.int 1))) (mCons (mOp fIx (mOp fIx (mVar 0) (mVar 2)) (mC (.int 0))) mNil))) (mTup (mCons (mOp fIx (mOp fIx (mVar 0) (mVar 2)) (mC (.int 0))) (mCons (mOp fIx (mOp fIx (mVar 0) (mVar 2)) (mC (.int 1))) mNil)))) (gTg (.tp [(.nm 4), (.nm 5)])))
  r__law_behind_1))
theorem b__law_behind_e : b__law_behind = (mSeq (mAsg (mIf (mT (mVar 3)) (mTup (mCons (mOp fIx (mOp fIx (mVar 0) (mVar 2)) (mC (.int 1))) (mCons (mOp fIx (mOp fIx (mVar 0) (mVar 2)) (mC (.int 0))) mNil))) (mTup (mCons (mOp fIx (mOp fIx (mVar 0) (mVar 2)) (mC (.int 0))) (mCons (mOp fIx (mOp fIx (mVar 0) (mVar 2)) (mC (.int 1))) mNil)))) (gTg (.tp [(.nm 4), (.nm 5)])))
  r__law_behind_1) := shut_eq _
noncomputable def m__law_behind : GX := shut (mBody 6 b__law_behind)
theorem m__law_behind_e : m__law_behind = mBody 6 b__law_behind := shut_eq _
end LB
/-! D layer, part 34: methods that say super(). -/
namespace DL
open PySem PySem.Spec PyProof.Rows L2 PySem.W
/-! ### an expression read in one of two ways -/
/-! ### statements where the running code is known -/
structure PEA (X : Cx) (c : Code) (e : Expr) (t : TE) : Prop where
  run : ∀ (pins : List (Addr × Obj)) (s : Shared) (σ : L2.St) (H : Hp) (Q : VK), Inv X pins σ H s → t σ H Q → _root_.PySem.wpAt (model X.prog X.w) X.A c (eval e X.env) (EP X pins σ Q) X.xe s
structure PSA (X : Cx) (c : Code) (st : Stmt) (t : TS) : Prop where
  run : ∀ (pins : List (Addr × Obj)) (s : Shared) (σ : L2.St) (H : Hp) (D : Ends), Inv X pins σ H s → t D σ H → _root_.PySem.wpAt (model X.prog X.w) X.A c (exec st X.env) (SP X pins D) X.xe s
structure PSsA (X : Cx) (c : Code) (st : List Stmt) (t : TS) : Prop where
  run : ∀ (pins : List (Addr × Obj)) (s : Shared) (σ : L2.St) (H : Hp) (D : Ends), Inv X pins σ H s → t D σ H → _root_.PySem.wpAt (model X.prog X.w) X.A c (execs st X.env) (SP X pins D) X.xe s
section
variable {X : Cx} {c : Code} {W : WX} {e : Expr} {st : Stmt} {b : List Stmt} {me : ME} {ma mb : MS} {pos : Pos}
end
/-! ### what a def of the class D knows of itself -/
/-- the file of a code object -/
def fileIn (K : Frag) (cd : Value) (F : Str) : Bool := match cd with
  | .ref c => (match K.lookup c with
    | some ⟨_, _, .fields vs, _⟩ => (match (vs[2]? : Option Value) with
      | some (.str f _) => F == f
      | _ => false)
    | _ => false)
  | _ => false
structure SupX (X : Cx) (D x0 : Str) : Prop where
  fn : ∃ f oc od fd osl ar, X.env.func = some f ∧ X.K.lookup f = some ⟨oc, od, .func fd, osl⟩ ∧ (fd.params.posonlyargs ++ fd.params.args).head? = some ar ∧ ar.arg = x0
  co : ∃ c oc od vs sl f t, X.env.code = .ref c ∧ X.K.lookup c = some ⟨oc, od, .fields vs, sl⟩ ∧ vs[2]? = some (.str f t) ∧ ((X.prog.main.file : Str) == f) = true
  ce : ∃ cc oc od sl, X.env.cells.lookup ("__class__" : Str) = some cc ∧ X.K.lookup cc = some ⟨oc, od, .cell (some (.ref (He.ga X.K D))), sl⟩
structure SupM (K : Frag) (Cs : List Str) (D B m : Str) : Prop where
  cd : ∃ cd, clsIn K (He.ga K D) = some cd
  st : nsIn K cStatics "thirdparty.any" = some none
  fi : fnIn K (He.ma K (He.ga K B) m) = true
  ty : typeIn K (.ref (He.ma K (He.ga K B) m)) = some (.type "function")
  up : ∀ C ∈ Cs, ks_superIn K (He.ga K C) (He.ga K D) m = some (some (.ref (He.ma K (He.ga K B) m))) ∧ mroIn K (He.ga K C) (.ref (He.ga K D)) = some true
section
variable {X : Cx} {W : WX} {cx : CXT} {k n : Nat} {D B m x0 : Str} {Cs : List Str} {g : GX} {e : Expr} {es : List Expr} {p0 p1 pos apos : Pos} {mas : MA} {body : List Stmt}
end
/-! ### such a def, as it stands behind the top -/
abbrev FnS : Type := Option (Str × Str × Arguments × FuncBody × Scope × Addr × List Str × Addr)
def fnS (K : Frag) (a : Addr) : FnS := match K.lookup a with
  | some ⟨_, _, .func fd, _⟩ => some (fd.name, fd.qualname, fd.params, fd.body, fd.scope, fd.globals, fd.closure.map (·.1), fd.builtins)
  | _ => none
/-- d: its words; C: the class that its cell holds -/
structure DefS where
  d : He5.DefA
  C : Str
def DefS.val (s : DefS) : FnS := some (s.d.name, s.d.qual, s.d.params, .stmts s.d.body, s.d.scope, mainGlobals, ["__class__"], builtinsNs)
def celOk (K : Frag) (C : Str) : List (Str × Addr) → Bool
  | [(_, c)] => (match K.lookup c with
    | some ⟨_, _, .cell (some (.ref a)), _⟩ => decide (a = He.ga K C)
    | _ => false)
  | _ => false
def DefS.ok (K : Frag) (file : Str) (s : DefS) : Bool := keepIn K (.ref (s.d.at_ K)) && (match K.lookup (s.d.at_ K) with
  | some ⟨_, _, .func fd, _⟩ => codeIn K fd.code s.d.qual && (fileIn K fd.code file && (decide (fd.defaults = .none) && celOk K s.C fd.closure))
  | _ => false)
structure FunS (K : Frag) (x qual : Str) (params : Arguments) (body : List Stmt) (scope : Scope) (C file : Str) (f : Addr) (fd : FuncData) : Prop where
  ex : ∃ (oc : Value) (od : Option Addr) (kV doc pm : Value) (an : Option Addr) (c : Addr) (ct : Value) (osl : Array (Option Value)) (cc : Addr) (oc2 : Value) (od2 : Option Addr) (sl2 : Array (Option Value)),
    fd = fnX x qual params body scope [("__class__", cc)] .none kV doc pm an (.ref c) ct ∧ K.lookup f = some ⟨oc, od, .func fd, osl⟩ ∧ codeIn K (.ref c) qual = true ∧ fileIn K (.ref c) file = true ∧ K.lookup cc = some ⟨oc2, od2, .cell (some (.ref (He.ga K C))), sl2⟩
  kp : keepIn K (.ref f) = true
theorem DefS.funS {K : Frag} {s : DefS} {file : Str} (e : fnS K (s.d.at_ K) = s.val) (c : s.ok K file = true) : ∃ fd, FunS K s.d.name s.d.qual s.d.params s.d.body s.d.scope s.C file (s.d.at_ K) fd := by
  obtain ⟨kp, c2⟩ := He.ba c
  unfold fnS at e
  cases q : K.lookup (s.d.at_ K) with
  | none =>
    rw [q] at c2
    cases c2
  | some o =>
    obtain ⟨oc, od, dt, osl⟩ := o
    rw [q] at c2 e
    cases dt with
    | func fd =>
      obtain ⟨n1, n2, n3, n4, n5, n6, n7, n8, n9, n10, n11, n12, n13, n14, n15⟩ := fd
      have e2 : (some (n1, n2, n3, n4, n5, n6, n7.map (·.1), n15) : FnS) = (some (s.d.name, s.d.qual, s.d.params, FuncBody.stmts s.d.body, s.d.scope, mainGlobals, ["__class__"], builtinsNs) : FnS) := e
      simp only [Option.some.injEq, Prod.mk.injEq] at e2
      obtain ⟨h1, h2, h3, h4, h5, h6, h7, h8⟩ := e2
      subst h1 h2 h3 h4 h5 h6 h8
      have c3 : (codeIn K n13 s.d.qual && (fileIn K n13 file && (decide (n8 = .none) && celOk K s.C n7))) = true := c2
      obtain ⟨k1, k2⟩ := He.ba c3
      obtain ⟨k3, k4⟩ := He.ba k2
      obtain ⟨k5, k6⟩ := He.ba k4
      obtain rfl : n8 = .none := of_decide_eq_true k5
      clear e c2 c3 k2 k4 c
      match n7, h7, k6 with
      | [(y, cc)], h7, k6 =>
        obtain rfl : y = "__class__" := by simpa using h7
        have k7 : (match K.lookup cc with
          | some ⟨_, _, .cell (some (.ref a)), _⟩ => decide (a = He.ga K s.C)
          | _ => false) = true := k6
        split at k7
        · rename_i oc2 od2 a sl2 ec
          obtain rfl := of_decide_eq_true k7
          cases n13 with
          | ref c => exact ⟨_, ⟨oc, od, n9, n10, n11, n12, c, n14, osl, cc, oc2, od2, sl2, rfl, q, k1, k3, ec⟩, kp⟩
          | _ => cases k1
        · cases k7
      | [], h7, _ => simp at h7
      | _ :: _ :: _, h7, _ => simp at h7
    | _ => cases c2
/-! ### its run -/
section
variable {P : Program} {w : World} {K : Frag} {mg : Str → Option Value} {base : Heap} {x qual : Str} {params : Arguments} {body : List Stmt} {scope : Scope} {C file : Str} {f : Addr} {fd : FuncData} {cx : CXT} {N ps : List Str} {k n : Nat}
abbrev cxS (cx : CXT) (P : Program) (w : World) (K : Frag) (mg : Str → Option Value) (base : Heap) (N : List Str) (x qual : Str) (params : Arguments) (body : List Stmt) (scope : Scope) (f cc c : Addr) (A : Around) (outer : List Env) (s : Shared) (H : Hp) (E : XK) : Cx :=
  NdefX.ncx cx P w K mg base N ⟨x, qual, params, body, scope, [("__class__", cc)], c⟩ f A outer s H E
end
/-! ### what is observed with such defs -/
def SaysY (fa : List He.Fa) (fn : List He5.DefA) (own : List FB) (file : Str) (fs : List DefS) (K : Frag) : Prop := SaysX fa fn own K ∧ (fs.all fun d => d.ok K file) = true ∧ (fs.map fun d => fnS K (d.d.at_ K)) = fs.map DefS.val
theorem SaysY.fs {fa : List He.Fa} {fn : List He5.DefA} {own : List FB} {file : Str} {fs : List DefS} {K : Frag} (c : SaysY fa fn own file fs K) (i : Nat) {d : DefS} (h : fs[i]? = some d := by rfl) : ∃ fd, FunS K d.d.name d.d.qual d.d.params d.d.body d.d.scope d.C file (d.d.at_ K) fd := by
  have e2 : (fs.map fun d => fnS K (d.d.at_ K))[i]? = (fs.map DefS.val)[i]? := by rw [c.2.2]
  rw [List.getElem?_map, List.getElem?_map, h] at e2
  exact DefS.funS (Option.some.inj e2) (List.all_eq_true.mp c.2.1 d (List.mem_of_getElem? h))
end DL
/-! D layer, part 35: x op= e, x an own class's thing. -/
namespace DL
open PySem PySem.Spec PyProof.Rows L2 PySem.W
section
variable {prog : Program} {w : World} {M : Model} {A : Around} {E : Value → Shared → Prop} {s : Shared} {K : Frag} {x C L f : Addr} {h₀ : Heap} {m : Str → Option Value} {ox : Obj} {od : Option Obj}
end
end DL
/-! D layer, part 36: the head, looked at from chosen names alone (a head of many defs needs less memory so). -/
namespace DL
open PySem PySem.Spec PyProof.Rows L2 PySem.W
end DL
/-! D layer, part 39: the head's look at written addresses, part by part (each part runs the top anew: less memory at a time). -/
namespace DL
open PySem PySem.Spec PyProof.Rows L2 PySem.W HandSHeadRun
abbrev frL (as : (Addr → Option Obj) → List Addr) (g : Addr → Option Obj) : PySem.W.Frag := He.frT g (as g)
end DL
/-! D layer, part 37: == and != of things of two own classes, one below the other. -/
namespace DL
open PySem PySem.Spec PyProof.Rows L2 PySem.W
section
variable {prog : Program} {w : World} {A : Around} {E : Value → Shared → Prop} {s : Shared} {K : Frag} {x y C C2 L f : Addr} {h₀ : Heap} {m : Str → Option Value} {ox oy : Obj} {od od2 : Option Obj}
end
section
variable {X : Cx} {k : Nat} {Cs : List Str} {C1 C2 : Str} {g : GX}
end
end DL
/-! D layer, part 38: list(x) of an own thing whose __iter__ tells an iterator over a tuple that it holds. -/
namespace DL
open PySem PySem.Spec PyProof.Rows L2
def TiO (t it : Addr) (i : Nat) : HO := .ext fun h => h.IsTupleIter it t i
section
variable {prog : Program} {w : World} {A : Around} {E : Value → Shared → Prop} {s : Shared} {t it : Addr} {items : Array Value} {i : Nat}
end
/-- what __iter__ promises: an iterator over the tuple in the field fl -/
def spIt (K : PySem.W.Frag) (fl : Str) : Sp := fun vs H Q _ => ∃ a C dx gs t ts, vs = [.ref a] ∧ H a = some (.ins C dx gs) ∧ Cls K C ∧ NoAttr K C fl ∧ gs.lookup fl = some (.ref t) ∧ SqT K H t ts ∧ ∀ it, H it = none → Q (.ref it) (upd H it (TiO t it 0))
section
variable {P : Program} {w : World} {K : PySem.W.Frag} {mg : Str → Option Value} {base : Heap} {k : Nat} {x qual fl : Str} {params : Arguments} {body : List Stmt} {scope : Scope} {f : Addr} {fd : FuncData} {n : Str} {N : List Str}
end
/-- classes whose __iter__ tells an iterator over the tuple in fl, with an own __len__ -/
structure IterO (P : Program) (w : World) (K : PySem.W.Frag) (mg : Str → Option Value) (base : Heap) (k : Nat) (Cs : List Str) (fl : Str) (g : GX) : Prop where
  it : ∃ f, FnR P w K mg base CX0 1 f (spIt K fl) ∧ PySem.W.isFn K (.ref f) = true ∧ ∀ C ∈ Cs, PySem.W.findIn K (.ref (He.ga K C)) "__iter__" = some (some (.ref f))
  len : DunO P w K mg base k Cs "__len__" 1 g
  cls : ∀ C ∈ Cs, Cls K (He.ga K C) ∧ NoAttr K (He.ga K C) fl
section
variable {X : Cx} {pins : List (Addr × Obj)} {σ : L2.St} {k : Nat} {Cs : List Str} {fl : Str} {g : GX} {t it q a : Addr} {ts : List V} {F0 : Hp} {Rsl : Result → Shared → Prop}
variable {H : Hp} {s : Shared} {Γ : AG} {S : Store} {A : Around} {f : Addr} {n : Nat}
end
end DL
/-! D layer, part 40: comprehensions with two fors and no condition. -/
namespace DL
open PySem PySem.Spec PyProof.Rows L2
def lcGo2 (t : Tg) (mi1 : MI) (t1 : Tg) (te : ME) (vs1 : List Nat) (δ : DEnv) : List DV → List DV → Store → MK (List DV) → Prop
  | [], acc, S, Q => Q acc S
  | x :: xs, acc, S, Q => match bindT t x δ with
    | some δ1 => mi1 δ1 S (fun ys S1 => lcGo t1 mYes te (wipeD δ1 vs1) ys acc S1 (fun acc' S2 => lcGo2 t mi1 t1 te vs1 δ xs acc' S2 Q)) noE
    | none => False
/-- [te for t in it for t1 in mi1] -/
def mLc2 (it : MI) (t : Tg) (mi1 : MI) (t1 : Tg) (te : ME) (vs vs1 : List Nat) : ME := fun δ S Q E => it δ S (fun xs S1 => lcGo2 t mi1 t1 te vs1 (wipeD δ vs) xs [] S1 (fun ys S2 => Q (.lst ys) S2)) E
section
variable {X : Cx} {W : WX} {elt tg iter tg1 iter1 : Expr} {scope : Scope} {own : List (Str × Nat)} {pos : Pos} {mi mi1 : MI} {t t1 : Tg} {me : ME} {vs1 : List Nat}
/-- the inner loop: the list at D grows -/
theorem lc_in {Γ : AG} {D : Addr} {A2 : List Addr} {G2 : Hp} {S2 : Store} {H2 : Hp} {δ : DEnv} {σ2 : L2.St} {ys : List DV} {us : List V} {xs1 : List DV} {J1 : It} {Nx : Hp → Prop} {Qn : MK (List DV)} (hn1 : ∀ i ∈ namesT t1, i ∈ vs1)
    (c : Cf X.K ⟨A2, G2, upd Γ.F D (.lst us), Γ.T⟩ S2 H2 δ σ2) (e2 : Ext Γ ⟨A2, G2, Γ.F, Γ.T⟩) (r2 : RVs X.K ⟨A2, G2, Γ.F, Γ.T⟩ ys us) (it : ItD X.K ⟨A2, G2, upd Γ.F D (.lst us), Γ.T⟩ J1 xs1) (q1 : lcGo t1 mYes me (wipeD δ vs1) xs1 ys S2 Qn)
    (fin : ∀ A' G' S' H' ys us, Ext Γ ⟨A', G', Γ.F, Γ.T⟩ → Ext ⟨A2, G2, Γ.F, Γ.T⟩ ⟨A', G', Γ.F, Γ.T⟩ → Rs X.K ⟨A', G', upd Γ.F D (.lst us), Γ.T⟩ S' H' → RVs X.K ⟨A', G', Γ.F, Γ.T⟩ ys us → Qn ys S' → Nx H') :
    ∃ W1 : Nat → Nat → Hp → Prop, (∃ m, W1 0 m H2) ∧ ∀ j k H, W1 j k H → (J1.stop j H ∧ Nx H) ∨ (J1.go j H ∧ ∃ Nx1 : Hp → Prop, (∀ H', Nx1 H' → ∃ k', k' < k ∧ W1 (j + 1) k' H') ∧ ∀ x H', J1.yld j H x H' → tgV X.K t1 x (L2.wipe σ2 vs1) H' fun σ3 H5 => L2.wipe σ3 vs1 = L2.wipe σ2 vs1 ∧ tG relB X.K noW mYes σ3 H5 fun b H6 =>
      if b = true then tG (RV X.K) X.K noW me σ3 H6 fun y H7 => ∃ acc, H7 D = some (.lst acc) ∧ acc.length < sizeLine ∧ Nx1 (upd H7 D (.lst (acc ++ [y]))) else Nx1 H6) := by
  refine ⟨fun i m H => m = xs1.length - i ∧ ∃ A' G' S' ys us, Ext Γ ⟨A', G', Γ.F, Γ.T⟩ ∧ Ext ⟨A2, G2, Γ.F, Γ.T⟩ ⟨A', G', Γ.F, Γ.T⟩ ∧ Rs X.K ⟨A', G', upd Γ.F D (.lst us), Γ.T⟩ S' H ∧ RVs X.K ⟨A', G', Γ.F, Γ.T⟩ ys us ∧ lcGo t1 mYes me (wipeD δ vs1) (xs1.drop i) ys S' Qn,
    ⟨xs1.length - 0, rfl, A2, G2, S2, ys, us, e2, Ext.refl _, c.rs, r2, q1⟩, ?_⟩
  rintro i m H2 ⟨rfl, A3, G3, S3, ys, us3, e3, f3, R3, r3, w3⟩
  obtain ⟨it1, it2⟩ := it ⟨A3, G3, upd Γ.F D (.lst us3), Γ.T⟩ S3 H2 ⟨f3.pre, f3.sub, rfl, rfl⟩ R3 i
  by_cases hi : i < xs1.length
  · have ed : xs1.drop i = xs1[i] :: xs1.drop (i + 1) := List.drop_eq_getElem_cons hi
    rw [ed] at w3
    obtain ⟨go, yl⟩ := it2 xs1[i] (by simp [hi])
    refine .inr ⟨go, fun H' => ∃ A' G' S' ys us, Ext Γ ⟨A', G', Γ.F, Γ.T⟩ ∧ Ext ⟨A2, G2, Γ.F, Γ.T⟩ ⟨A', G', Γ.F, Γ.T⟩ ∧ Rs X.K ⟨A', G', upd Γ.F D (.lst us), Γ.T⟩ S' H' ∧ RVs X.K ⟨A', G', Γ.F, Γ.T⟩ ys us ∧ lcGo t1 mYes me (wipeD δ vs1) (xs1.drop (i + 1)) ys S' Qn, fun H' h => ⟨xs1.length - (i + 1), by omega, rfl, h⟩, fun v H3 y => ?_⟩
    obtain ⟨⟨A4, G4, F4, T4⟩, e4, R4, r4⟩ := yl v H3 y
    obtain rfl : F4 = upd Γ.F D (.lst us3) := e4.eqF
    obtain rfl : T4 = Γ.T := e4.eqT
    have w3' : (match bindT t1 xs1[i] (wipeD δ vs1) with
      | some δ1 => mYes δ1 S3 (fun b S1 => match b with
        | true => me δ1 S1 (fun y S2 => ys.length < 16777216 ∧ lcGo t1 mYes me (wipeD δ vs1) (xs1.drop (i + 1)) (ys ++ [y]) S2 Qn) noE
        | false => lcGo t1 mYes me (wipeD δ vs1) (xs1.drop (i + 1)) ys S1 Qn) noE
      | none => False) := w3
    cases hb : bindT t1 xs1[i] (wipeD δ vs1) with
    | none =>
      rw [hb] at w3'
      exact w3'.elim
    | some δ1 =>
      rw [hb] at w3'
      have g34 : Ext ⟨A3, G3, Γ.F, Γ.T⟩ ⟨A4, G4, Γ.F, Γ.T⟩ := ⟨e4.pre, e4.sub, rfl, rfl⟩
      have g24 : Ext ⟨A2, G2, Γ.F, Γ.T⟩ ⟨A4, G4, Γ.F, Γ.T⟩ := f3.trans g34
      have cw : Cf X.K ⟨A4, G4, upd Γ.F D (.lst us3), Γ.T⟩ S3 H3 (wipeD δ vs1) (L2.wipe σ2 vs1) := by
        have h := c.wipe vs1
        exact ⟨R4, h.len, fun j d ej => by
          obtain ⟨z, h1, h2⟩ := h.ls j d ej
          exact ⟨z, h1, RV.mono (Γ := ⟨A2, G2, Γ.F, Γ.T⟩) (Γ' := ⟨A4, G4, Γ.F, Γ.T⟩) g24 d z h2⟩⟩
      refine tgV_run t1 xs1[i] v (wipeD δ vs1) δ1 (L2.wipe σ2 vs1) _ cw r4 hb fun σ' c' a => ?_
      have ww : L2.wipe σ' vs1 = L2.wipe (L2.wipe σ2 vs1) vs1 := wipe_agree ⟨a.1, fun j hj => a.2 j fun z => hj (hn1 j z)⟩
      have w1 : L2.wipe (L2.wipe σ2 vs1) vs1 = L2.wipe σ2 vs1 := wipe_agree ⟨wipe_length σ2 vs1, fun j hj => wipe_out hj⟩
      refine ⟨ww.trans w1, ⟨_, S3, δ1, _, noE, c', w3', fun ⟨A5, G5, F5, T5⟩ S5 H5 d5 v5 e5 R5 r5 q5 => ?_, fun _ _ _ _ _ _ _ _ _ z => z.elim⟩⟩
      obtain rfl : F5 = upd Γ.F D (.lst us3) := e5.eqF
      obtain rfl : T5 = Γ.T := e5.eqT
      cases (show d5 = v5 from r5)
      have g25 : Ext ⟨A2, G2, Γ.F, Γ.T⟩ ⟨A5, G5, Γ.F, Γ.T⟩ := g24.trans ⟨e5.pre, e5.sub, rfl, rfl⟩
      have g35 : Ext ⟨A3, G3, Γ.F, Γ.T⟩ ⟨A5, G5, Γ.F, Γ.T⟩ := g34.trans ⟨e5.pre, e5.sub, rfl, rfl⟩
      have r35 : RVs X.K ⟨A5, G5, Γ.F, Γ.T⟩ ys us3 := RVs.mono (Γ := ⟨A3, G3, Γ.F, Γ.T⟩) (Γ' := ⟨A5, G5, Γ.F, Γ.T⟩) g35 _ _ r3
      cases d5 with
      | true =>
        rw [if_pos rfl]
        refine ⟨_, S5, δ1, _, noE, c'.mk' R5 e5, q5, fun ⟨A6, G6, F6, T6⟩ S6 H6 d6 v6 e6 R6 r6 q6 => ?_, fun _ _ _ _ _ _ _ _ _ z => z.elim⟩
        obtain rfl : F6 = upd Γ.F D (.lst us3) := e6.eqF
        obtain rfl : T6 = Γ.T := e6.eqT
        have hD6 : H6 D = some (.lst us3) := R6.fsub D _ upd_same
        have g56 : Ext ⟨A5, G5, Γ.F, Γ.T⟩ ⟨A6, G6, Γ.F, Γ.T⟩ := ⟨e6.pre, e6.sub, rfl, rfl⟩
        have r36 : RVs X.K ⟨A6, G6, Γ.F, Γ.T⟩ ys us3 := RVs.mono (Γ := ⟨A5, G5, Γ.F, Γ.T⟩) (Γ' := ⟨A6, G6, Γ.F, Γ.T⟩) g56 _ _ r35
        have R7 := R6.held (p := D) (o0 := .lst us3) upd_same (.lst (us3 ++ [v6]))
        have eu : upd (upd Γ.F D (.lst us3)) D (HO.lst (us3 ++ [v6])) = upd Γ.F D (.lst (us3 ++ [v6])) := upd_upd
        refine ⟨us3, hD6, by rw [← r36.length]; exact Nat.lt_of_lt_of_le q6.1 (Nat.le_of_eq sizeLine_eq.symm), A6, G6, S6, ys ++ [d6], us3 ++ [v6], e3.trans (g35.trans g56), g25.trans g56, ?_, r36.snoc r6, q6.2⟩
        rw [← eu]
        exact R7
      | false =>
        rw [if_neg Bool.false_ne_true]
        exact ⟨A5, G5, S5, ys, us3, e3.trans g35, g25, R5, r35, q5⟩
  · have hd : xs1.drop i = [] := List.drop_eq_nil_of_le (by omega)
    rw [hd] at w3
    exact .inl ⟨it1 (by omega), fin A3 G3 S3 H2 ys us3 e3 f3 R3 r3 w3⟩
theorem lc2_run {Γ : AG} {S : Store} {H1 : Hp} {δ : DEnv} {σ : L2.St} {xs : List DV} {J : It} {Q : VK} (vs : List Nat) (hn : ∀ i ∈ namesT t, i ∈ vs) (hn1 : ∀ i ∈ namesT t1, i ∈ vs1) {Qd : MK (List DV)} (c1 : Cf X.K Γ S H1 δ σ) (it : ItD X.K Γ J xs) (q1 : lcGo2 t mi1 t1 me vs1 (wipeD δ vs) xs [] S Qd)
    (fin : ∀ A' G' S' H' D ys us, Ext Γ ⟨A', G', Γ.F, Γ.T⟩ → H1 D = none → Γ.F D = none → Rs X.K ⟨A', G', upd Γ.F D (.lst us), Γ.T⟩ S' H' → RVs X.K ⟨A', G', Γ.F, Γ.T⟩ ys us → Qd ys S' → Q (.ref D) H') :
    ∀ D, H1 D = none → ∃ W1 : Nat → Nat → Hp → Prop, (∃ m, W1 0 m (upd H1 D (.lst []))) ∧ ∀ i m H, W1 i m H →
      (J.stop i H ∧ Q (.ref D) H) ∨ (J.go i H ∧ ∃ Nx : Hp → Prop, (∀ H', Nx H' → ∃ m', m' < m ∧ W1 (i + 1) m' H') ∧ ∀ x H', J.yld i H x H' → tgV X.K t x (L2.wipe σ vs) H' fun σ2 H2 => L2.wipe σ2 vs = L2.wipe σ vs ∧ tG relB X.K noW mYes σ2 H2 fun b H3 =>
        if b = true then tID X.K noW mi1 σ2 H3 fun J1 H4 => ∃ W1 : Nat → Nat → Hp → Prop, (∃ m, W1 0 m H4) ∧ ∀ j k H, W1 j k H →
          (J1.stop j H ∧ Nx H) ∨ (J1.go j H ∧ ∃ Nx1 : Hp → Prop, (∀ H', Nx1 H' → ∃ k', k' < k ∧ W1 (j + 1) k' H') ∧ ∀ x H', J1.yld j H x H' → tgV X.K t1 x (L2.wipe σ2 vs1) H' fun σ3 H5 => L2.wipe σ3 vs1 = L2.wipe σ2 vs1 ∧ tG relB X.K noW mYes σ3 H5 fun b H6 =>
            if b = true then tG (RV X.K) X.K noW me σ3 H6 fun y H7 => ∃ acc, H7 D = some (.lst acc) ∧ acc.length < sizeLine ∧ Nx1 (upd H7 D (.lst (acc ++ [y]))) else Nx1 H6)
        else Nx H3) := by
  intro D hD
  have hF := c1.rs.noF hD
  refine ⟨fun i m H => m = xs.length - i ∧ ∃ A' G' S' ys us, Ext Γ ⟨A', G', Γ.F, Γ.T⟩ ∧ Rs X.K ⟨A', G', upd Γ.F D (.lst us), Γ.T⟩ S' H ∧ RVs X.K ⟨A', G', Γ.F, Γ.T⟩ ys us ∧ lcGo2 t mi1 t1 me vs1 (wipeD δ vs) (xs.drop i) ys S' Qd,
    ⟨xs.length - 0, rfl, Γ.A, Γ.G, S, [], [], Ext.refl Γ, c1.rs.hold hD _, rfl, q1⟩, ?_⟩
  rintro i m H2 ⟨rfl, A2, G2, S2, ys, us, e2, R2, r2, w2⟩
  obtain ⟨it1, it2⟩ := it ⟨A2, G2, upd Γ.F D (.lst us), Γ.T⟩ S2 H2 e2 R2 i
  by_cases hi : i < xs.length
  · have ed : xs.drop i = xs[i] :: xs.drop (i + 1) := List.drop_eq_getElem_cons hi
    rw [ed] at w2
    obtain ⟨go, yl⟩ := it2 xs[i] (by simp [hi])
    refine .inr ⟨go, fun H' => ∃ A' G' S' ys us, Ext Γ ⟨A', G', Γ.F, Γ.T⟩ ∧ Rs X.K ⟨A', G', upd Γ.F D (.lst us), Γ.T⟩ S' H' ∧ RVs X.K ⟨A', G', Γ.F, Γ.T⟩ ys us ∧ lcGo2 t mi1 t1 me vs1 (wipeD δ vs) (xs.drop (i + 1)) ys S' Qd, fun H' h => ⟨xs.length - (i + 1), by omega, rfl, h⟩, fun v H3 y => ?_⟩
    obtain ⟨⟨A3, G3, F3, T3⟩, e3, R3, r3⟩ := yl v H3 y
    obtain rfl : F3 = upd Γ.F D (.lst us) := e3.eqF
    obtain rfl : T3 = Γ.T := e3.eqT
    have w2' : (match bindT t xs[i] (wipeD δ vs) with
      | some δ1 => mi1 δ1 S2 (fun ys1 S1 => lcGo t1 mYes me (wipeD δ1 vs1) ys1 ys S1 (fun acc' S2 => lcGo2 t mi1 t1 me vs1 (wipeD δ vs) (xs.drop (i + 1)) acc' S2 Qd)) noE
      | none => False) := w2
    cases hb : bindT t xs[i] (wipeD δ vs) with
    | none =>
      rw [hb] at w2'
      exact w2'.elim
    | some δ1 =>
      rw [hb] at w2'
      have g23 : Ext ⟨A2, G2, Γ.F, Γ.T⟩ ⟨A3, G3, Γ.F, Γ.T⟩ := ⟨e3.pre, e3.sub, rfl, rfl⟩
      have e23 : Ext Γ ⟨A3, G3, Γ.F, Γ.T⟩ := e2.trans g23
      have cw : Cf X.K ⟨A3, G3, upd Γ.F D (.lst us), Γ.T⟩ S2 H3 (wipeD δ vs) (L2.wipe σ vs) := by
        have h := c1.wipe vs
        exact ⟨R3, h.len, fun j d ej => by
          obtain ⟨z, h1, h2⟩ := h.ls j d ej
          exact ⟨z, h1, RV.mono e23 d z h2⟩⟩
      refine tgV_run t xs[i] v (wipeD δ vs) δ1 (L2.wipe σ vs) _ cw r3 hb fun σ' c' a => ?_
      have ww : L2.wipe σ' vs = L2.wipe (L2.wipe σ vs) vs := wipe_agree ⟨a.1, fun j hj => a.2 j fun z => hj (hn j z)⟩
      have w1 : L2.wipe (L2.wipe σ vs) vs = L2.wipe σ vs := wipe_agree ⟨wipe_length σ vs, fun j hj => wipe_out hj⟩
      refine ⟨ww.trans w1, ⟨_, S2, δ1, fun b S' => b = true ∧ S' = S2, noE, c', ⟨rfl, rfl⟩, fun ⟨A4, G4, F4, T4⟩ S4 H4 d4 v4 e4 R4 r4 q4 => ?_, fun _ _ _ _ _ _ _ _ _ z => z.elim⟩⟩
      obtain ⟨rfl, rfl⟩ := q4
      obtain rfl : F4 = upd Γ.F D (.lst us) := e4.eqF
      obtain rfl : T4 = Γ.T := e4.eqT
      cases (show true = v4 from r4)
      rw [if_pos rfl]
      refine ⟨_, S4, δ1, _, noE, c'.mk' R4 e4, w2', fun ⟨A5, G5, F5, T5⟩ S5 H5 xs1 J1 e5 R5 it5 q5 => ?_, fun _ _ _ _ _ _ _ _ _ z => z.elim⟩
      obtain rfl : F5 = upd Γ.F D (.lst us) := e5.eqF
      obtain rfl : T5 = Γ.T := e5.eqT
      have g34 : Ext ⟨A3, G3, Γ.F, Γ.T⟩ ⟨A4, G4, Γ.F, Γ.T⟩ := ⟨e4.pre, e4.sub, rfl, rfl⟩
      have g45 : Ext ⟨A4, G4, Γ.F, Γ.T⟩ ⟨A5, G5, Γ.F, Γ.T⟩ := ⟨e5.pre, e5.sub, rfl, rfl⟩
      have e25 : Ext Γ ⟨A5, G5, Γ.F, Γ.T⟩ := e23.trans (g34.trans g45)
      have r25 : RVs X.K ⟨A5, G5, Γ.F, Γ.T⟩ ys us := RVs.mono (Γ := ⟨A2, G2, Γ.F, Γ.T⟩) (Γ' := ⟨A5, G5, Γ.F, Γ.T⟩) (g23.trans (g34.trans g45)) _ _ r2
      exact lc_in (Γ := Γ) hn1 ((c'.mk' R4 e4).mk' R5 e5) e25 r25 it5 q5 fun A6 G6 S6 H6 ys6 us6 e6 _ R6 r6 q6 => ⟨A6, G6, S6, ys6, us6, e6, R6, r6, q6⟩
  · have hd : xs.drop i = [] := List.drop_eq_nil_of_le (by omega)
    rw [hd] at w2
    exact .inl ⟨it1 (by omega), fin A2 G2 S2 H2 D ys us e2 hD hF R2 r2 w2⟩
theorem d_lc2 (hc : X.calm = true) (hN : X.N.Nodup) (hi : DI X W tg iter mi) (ok : BlkOk X.N X.env.scope scope own) (hn : ∀ i ∈ namesT t, i ∈ own.map (·.2)) (hn1 : ∀ i ∈ namesT t1, i ∈ vs1) (hv : ∀ i ∈ vs1, i ∈ own.map (·.2))
    (hg : ∀ (s : Shared) (H : Hp) (C : Addr) (cl : List (Str × Addr)) (fp : List Addr), DTg (X.blk s H scope (compEnvC scope cl C X.env) fp) tg t)
    (hi1 : ∀ (s : Shared) (H : Hp) (C : Addr) (cl : List (Str × Addr)) (fp : List Addr), DI (X.blk s H scope (compEnvC scope cl C X.env) fp) noW tg1 iter1 mi1)
    (hg1 : ∀ (s : Shared) (H : Hp) (C : Addr) (cl : List (Str × Addr)) (fp : List Addr), DTg (X.blk s H scope (compEnvC scope cl C X.env) fp) tg1 t1)
    (he : ∀ (s : Shared) (H : Hp) (C : Addr) (cl : List (Str × Addr)) (fp : List Addr), DE (X.blk s H scope (compEnvC scope cl C X.env) fp) noW elt me)
    (hs : ∀ x, foldedSetIterable iter X.env x = pure x := by intro _; rfl) (hs1 : ∀ env x, foldedSetIterable iter1 env x = pure x := by intro _ _; rfl) :
    DE X W (.ListComp elt [⟨tg, iter, [], 0⟩, ⟨tg1, iter1, [], 0⟩] scope pos) (mLc2 mi t mi1 t1 me (own.map (·.2)) vs1) :=
  PE.imp (pe_lc2 (wi := tID X.K W mi) (g := tgV X.K t) (tt := tG relB X.K noW mYes) (wi1 := tID X.K noW mi1) (g1 := tgV X.K t1) (tt1 := tG relB X.K noW mYes) (te := tG (RV X.K) X.K noW me) hc hN hi ok hv hg (fun _ _ _ _ _ => d_yes) hi1 hg1 (fun _ _ _ _ _ => d_yes) he hs hs1)
    fun σ H Q ⟨Γ, S, δ, Qd, Ed, c, m, kq, ke⟩ => ⟨Γ, S, δ, _, Ed, c, m, fun Γ1 S1 H1 xs J e1 R1 it q1 =>
    lc2_run (own.map (·.2)) hn hn1 (c.mk' R1 e1) it q1 fun A2 G2 S2 H2 D ys us e2 hD hF R2 r2 q2 => by
      obtain ⟨R3, e3, r3⟩ := R2.giveL hF e2 r2
      exact kq _ S2 H2 (.lst ys) (.ref D) (e1.trans e3) R3 r3 q2, ke⟩
end
end DL
/-! D layer, part 41: dicts whose keys are tuples of ints. -/
namespace DL
open PySem PySem.Spec PyProof.Rows L2
def getK : List (List Int × DV) → List Int → Option DV
  | [], _ => none
  | p :: r, k => if p.1 = k then some p.2 else getK r k
def tk (k : List Int) : DV := .tup (k.map DV.int)
abbrev dK (k : List Int) : List L2.Key := k.map Sum.inl
theorem dK_inj0 : ∀ {a b : List Int}, dK a = dK b → a = b
  | [], [], _ => rfl
  | [], y :: b, h => nomatch h
  | x :: a, [], h => nomatch h
  | x :: a, y :: b, h => by
    have h1 : (Sum.inl x : L2.Key) = Sum.inl y ∧ dK a = dK b := List.cons.inj h
    rw [Sum.inl.inj h1.1, dK_inj0 h1.2]
theorem dK_inj {a b : List Int} : dK a = dK b ↔ a = b := ⟨dK_inj0, fun h => by rw [h]⟩
section
variable {K : PySem.W.Frag} {Γ : AG}
theorem rds_get : ∀ {kvs : List (List Int × DV)} {gs : List (List L2.Key × V)} {k : List Int} {d : DV}, RDs K Γ kvs gs → getK kvs k = some d → ∃ v, valV gs (dK k) = some v ∧ RV K Γ d v
  | [], gs, k, d, r, e => by cases e
  | (f, x) :: kvs, gs, k, d, r, e => by
    obtain ⟨v, hs, rfl, r1, r2⟩ := r
    unfold getK at e
    by_cases h : f = k
    · rw [if_pos h] at e
      cases e
      exact ⟨v, valV_pos (p := (dK f, v)) (by rw [h]), r1⟩
    · rw [if_neg h] at e
      obtain ⟨w, h1, h2⟩ := rds_get r2 e
      exact ⟨w, by rw [valV_neg (p := (dK f, v)) (fun z => h (dK_inj.mp z))]; exact h1, h2⟩
theorem rds_non : ∀ {kvs : List (List Int × DV)} {gs : List (List L2.Key × V)} {k : List Int}, RDs K Γ kvs gs → getK kvs k = none → valV gs (dK k) = none
  | [], gs, k, r, e => by
    cases (show gs = [] from r)
    rfl
  | (f, x) :: kvs, gs, k, r, e => by
    obtain ⟨v, hs, rfl, r1, r2⟩ := r
    unfold getK at e
    by_cases h : f = k
    · rw [if_pos h] at e
      cases e
    · rw [if_neg h] at e
      rw [valV_neg (p := (dK f, v)) (fun z => h (dK_inj.mp z))]
      exact rds_non r2 e
theorem rds_snoc : ∀ {kvs : List (List Int × DV)} {gs : List (List L2.Key × V)} {k : List Int} {d : DV} {v : V}, RDs K Γ kvs gs → RV K Γ d v → RDs K Γ (kvs ++ [(k, d)]) (gs ++ [(dK k, v)])
  | [], gs, k, d, v, r, q => by
    cases (show gs = [] from r)
    exact ⟨v, [], rfl, q, rfl⟩
  | (f, x) :: kvs, gs, k, d, v, r, q => by
    obtain ⟨w, hs, rfl, r1, r2⟩ := r
    exact ⟨w, _, rfl, r1, rds_snoc r2 q⟩
theorem rds_len : ∀ {kvs : List (List Int × DV)} {gs : List (List L2.Key × V)}, RDs K Γ kvs gs → kvs.length = gs.length
  | [], gs, r => by
    cases (show gs = [] from r)
    rfl
  | (f, x) :: kvs, gs, r => by
    obtain ⟨v, hs, rfl, r1, r2⟩ := r
    rw [List.length_cons, List.length_cons, rds_len r2]
theorem rvs_intK : ∀ {k : List Int} {vs : List V}, RVs K Γ (k.map DV.int) vs → vs = (dK k).map kV
  | [], vs, r => r
  | x :: k, vs, r => by
    obtain ⟨v, us, rfl, r1, r2⟩ := r
    cases (show v = V.int x from r1)
    rw [rvs_intK r2]
    rfl
theorem key_ref {k : List Int} {v : V} (r : RV K Γ (tk k) v) : ∃ p, v = .ref p ∧ Γ.G p = some (.tup ((dK k).map kV)) := by
  obtain ⟨p, vs, h1, h2, h3⟩ := r
  rw [rvs_intK h3] at h2
  exact ⟨p, h1, h2⟩
theorem dct_ref {S : Store} {H : Hp} {i : Nat} {v : V} {kvs : List (List Int × DV)} (R : Rs K Γ S H) (r : RV K Γ (.ref i) v) (e : S[i]? = some (some (.dct kvs))) : ∃ a gs, v = .ref a ∧ Γ.A[i]? = some a ∧ H a = some (.dT gs) ∧ RDs K Γ kvs gs := by
  obtain ⟨a, h1, h2, gs, h3, h4⟩ := R.ref r e
  exact ⟨a, gs, h1, h2, h3, h4⟩
/-- what stands there -/
theorem dget_of {S : Store} {H : Hp} {kvs : List (List Int × DV)} {gs : List (List L2.Key × V)} {k : List Int} {a p : Addr} (R : Rs K Γ S H) (ha : H a = some (.dT gs)) (hp : Γ.G p = some (.tup ((dK k).map kV))) : DGet H a (.ref p) (valV gs (dK k)) := DGet.t ha (R.sub _ _ hp)
theorem isSome_of {kvs : List (List Int × DV)} {gs : List (List L2.Key × V)} {k : List Int} (r : RDs K Γ kvs gs) : (valV gs (dK k)).isSome = (getK kvs k).isSome := by
  cases e : getK kvs k with
  | none =>
    rw [rds_non r e]
    rfl
  | some d =>
    obtain ⟨v, h, _⟩ := rds_get r e
    rw [h]
    rfl
end
/-- k in d, k not in d -/
def fInD (q : Bool → Bool) : G2 := fun x y S Q => ∃ i kvs k, y = .ref i ∧ S[i]? = some (some (.dct kvs)) ∧ x = tk k ∧ Q (.bl (q (getK kvs k).isSome)) S
/-- d[k] -/
def mDGet (md mk : ME) : ME := fun δ S Q E => md δ S (fun x S1 => mk δ S1 (fun y S2 => ∃ i kvs k d, x = .ref i ∧ S2[i]? = some (some (.dct kvs)) ∧ y = tk k ∧ getK kvs k = some d ∧ Q d S2) E) E
/-- d.get(k, x) -/
def mDGet2 (md mk mx : ME) : ME := fun δ S Q E => md δ S (fun x S1 => ∃ i kvs, x = .ref i ∧ S1[i]? = some (some (.dct kvs)) ∧ mk δ S1 (fun y S2 => mx δ S2 (fun z S3 => ∃ kvs k, S3[i]? = some (some (.dct kvs)) ∧ y = tk k ∧ Q ((getK kvs k).getD z) S3) E) E) E
/-- d[k] = v, the key is new -/
def mDPut (md mk mv : ME) : MS := fun D δ S => mv δ S (fun v S1 => md δ S1 (fun x S2 => mk δ S2 (fun y S3 => ∃ i kvs k, x = .ref i ∧ S3[i]? = some (some (.dct kvs)) ∧ y = tk k ∧ getK kvs k = none ∧ kvs.length < 16777216 ∧ D.nx δ (S3.set i (some (.dct (kvs ++ [(k, v)]))))) (fun x S' => D.ex x δ S')) (fun x S' => D.ex x δ S')) (fun x S' => D.ex x δ S')
/-- {} -/
def mDctO0 : ME := fun _ S Q _ => Q (.ref S.length) (S ++ [some (.dct [])])
/-- {k: v} -/
def mDctO1 (mk mv : ME) : ME := fun δ S Q E => mk δ S (fun x S1 => mv δ S1 (fun y S2 => ∃ k, x = tk k ∧ Q (.ref S2.length) (S2 ++ [some (.dct [(k, y)])])) E) E
section
variable {X : Cx} {W : WX} {o e f value : Expr} {md mk mv mx : ME} {pos pos' : Pos}
theorem opd_inD {q : Bool → Bool} {op : CmpOp} (hq : ∀ (pins : List (Addr × Obj)) (σ : L2.St) (H : Hp) (s : Shared) (a : Addr) (y : V) (u : Value) (o : Option V) (Q : Value → Shared → Prop), Inv X pins σ H s → DGet H a y o → RelV y u → (∀ s', Inv X pins σ H s' → Q (.bool (q o.isSome)) s') → wpAny (model X.prog X.w) X.A (compareOp op u (.ref a)) Q X.xe s) : OpD X (compareOp op) (fInD q) := by
  intro pins s σ H x y v u Q I rx ry h
  obtain ⟨Γ, S, dx, dy, Qd, R, r1, r2, ⟨i, kvs, k, rfl, hi, rfl, hg⟩, kq⟩ := h
  obtain ⟨p, rfl, hp⟩ := key_ref r1
  obtain ⟨a, gs, rfl, _, ha, rg⟩ := dct_ref R r2 hi
  obtain rfl : u = Value.ref a := ry
  refine hq pins σ H s a _ v _ _ I (dget_of (kvs := kvs) R ha hp) rx fun s' I' => ⟨.bl (q (getK kvs k).isSome), H, I', by rw [isSome_of rg]; rfl, kq.here R (d := .bl (q (getK kvs k).isSome)) rfl hg⟩
theorem opd_notInK (hu : X.A.units + 64 < cLine) : OpD X (compareOp .NotIn) (fInD fun b => !b) := opd_inD fun pins σ H s a y u o Q I g r h => d_notIn (by omega) I g r h
theorem d_dct0 : DE X W (.Dict [] [] pos) mDctO0 :=
  PE.imp pe_dnewT fun σ H Q ⟨Γ, S, δ, Qd, Ed, c, m, kq, ke⟩ => fun p hp => kq.push (d := .dct []) c.rs hp ⟨[], rfl, rfl⟩ m
theorem s_dput (hu : X.A.units + 64 < cLine) (ho : DE X W o md) (he : DE X W e mk) (hv : DE X W value mv) (hs : swapsWith value (some (.Subscript o e pos')) pos.line X.env = pure false := by rfl) : DS X W (.Assign [.Subscript o e pos'] value pos) (mDPut md mk mv) :=
  PS.imp (ps_dput (by omega) ho he hv hs) fun D0 σ H ⟨Γ, S, δ, Dd, c, m, er⟩ => ⟨Γ, S, δ, _, _, c, m, fun Γ1 S1 H1 d1 v1 e1 R1 r1 q1 => ⟨Γ1, S1, δ, _, _, c.mk' R1 e1, q1, fun Γ2 S2 H2 d2 v2 e2 R2 r2 q2 => ⟨Γ2, S2, δ, _, _, (c.mk' R1 e1).mk' R2 e2, q2, fun Γ3 S3 H3 d3 v3 e3 R3 r3 ⟨i, kvs, k, h1, h2, h3, h4, h5, q3⟩ => by
    subst h1 h3
    obtain ⟨p, rfl, hp⟩ := key_ref r3
    obtain ⟨a, gs, rfl, hA, ha, rg⟩ := dct_ref R3 (RV.mono e3 _ _ r2) h2
    have rv1 : RV X.K Γ3 d1 v1 := RV.mono (e2.trans e3) _ _ r1
    have ep : putK gs (dK k) v1 = gs ++ [(dK k, v1)] := by
      unfold putK
      rw [if_neg]
      rw [valV_any, rds_non rg h4]
      exact Bool.false_ne_true
    refine ⟨a, _, rfl, DPut.t ha (R3.sub _ _ hp) (by rw [← rds_len rg]; exact Nat.lt_of_lt_of_le h5 (Nat.le_of_eq sizeLine_eq.symm)), ?_⟩
    rw [ep]
    exact er.nx Γ3 _ _ δ σ (e1.trans (e2.trans e3)) (((c.mk' R1 e1).mk' R2 e2).mk' (R3.write (d := .dct (kvs ++ [(k, d1)])) h2 hA ⟨_, rfl, rds_snoc rg rv1⟩) e3) q3, ((er.ke c).mono e1).mono e2⟩, (er.ke c).mono e1⟩, er.ke c⟩
end
end DL
/-! D layer, part 42: sorted(d), {k: v}, the keys tuples of ints. -/
namespace DL
open PySem PySem.Spec PyProof.Rows L2 PySem.W
section
variable {K : PySem.W.Frag}
theorem rvs_intR {Γ : AG} : ∀ k : List Int, RVs K Γ (k.map DV.int) ((dK k).map kV)
  | [] => rfl
  | x :: k => ⟨.int x, (dK k).map kV, rfl, rfl, rvs_intR k⟩
theorem RDs.mono' {Γ Γ' : AG} (e : Ext Γ Γ') : ∀ {kvs : List (List Int × DV)} {gs : List (List L2.Key × V)}, RDs K Γ kvs gs → RDs K Γ' kvs gs
  | [], gs, r => r
  | (f, x) :: kvs, gs, r => by
    obtain ⟨v, hs, rfl, r1, r2⟩ := r
    exact ⟨v, hs, rfl, RV.mono e _ _ r1, RDs.mono' e r2⟩
theorem know_all {S : Store} {H : Hp} : ∀ {kvs : List (List Int × DV)} {gs : List (List L2.Key × V)} {xs : List (List L2.Key × Addr × Value)} {Γ : AG}, RDs K Γ kvs gs → KT H gs xs → Rs K Γ S H →
    ∃ G', Ext Γ ⟨Γ.A, G', Γ.F, Γ.T⟩ ∧ Rs K ⟨Γ.A, G', Γ.F, Γ.T⟩ S H ∧ RVs K ⟨Γ.A, G', Γ.F, Γ.T⟩ (kvs.map fun p => tk p.1) (xs.map fun x => V.ref x.2.1)
  | [], gs, xs, Γ, r, t, R => by
    cases (show gs = [] from r)
    cases t
    exact ⟨Γ.G, Ext.refl Γ, R, rfl⟩
  | (f, x) :: kvs, gs, xs, Γ, r, t, R => by
    obtain ⟨v, hs, rfl, r1, r2⟩ := r
    cases t with
    | @cons p q ps qs h t =>
      obtain ⟨h1, h2, h3⟩ := h
      obtain ⟨G1, E1, R1, k1⟩ := R.know h2
      obtain ⟨G2, E2, R2, k2⟩ := know_all (Γ := ⟨Γ.A, G1, Γ.F, Γ.T⟩) (RDs.mono' E1 r2) t R1
      exact ⟨G2, E1.trans E2, R2, .ref q.2.1, _, rfl, ⟨q.2.1, _, rfl, E2.sub _ _ k1, rvs_intR f⟩, k2⟩
end
def gSortedD : GN := fun xs S Q => ∃ i kvs ps, xs = [.ref i] ∧ S[i]? = some (some (.dct kvs)) ∧ toPs (kvs.map fun p => tk p.1) = some ps ∧ AllAlike ps ∧ Sortable ps ∧ kvs.length ≤ 16777216 ∧ (∀ p ∈ ps, p.depth ≤ 60) ∧
  Q (.lst ((((kvs.map fun p => tk p.1).zip ps).mergeSort (dataLe false Prod.snd)).map Prod.fst)) S
section
variable {X : Cx}
theorem cd_sortedD (hc : X.calm = true) (hu : X.A.units + 64 < cLine) : CallD X (.builtin "sorted") gSortedD := by
  intro pins s σ H xs us Q I rx h
  obtain ⟨Γ, S, ds, Qd, R, r1, ⟨i, kvs, ps, rfl, hi, hp, hal, hso, hl, hd, q⟩, kq⟩ := h
  obtain ⟨v, rfl, r⟩ := r1.one
  obtain ⟨a, gs, rfl, hA, ha, rg⟩ := dct_ref R r hi
  obtain ⟨u, rfl, ru⟩ := vals1 rx
  obtain rfl : u = Value.ref a := ru
  obtain ⟨z, hs, ks, pr, o, es, ep, ho, hx, hdt, he, hn⟩ := (show ObjOk X.prog X.w H s.heap a (.dT gs) from I.hok a _ ha)
  obtain ⟨G', E', R', rk⟩ := know_all rg pr R
  have l1 : es.size = ks.length := size_of_entries he
  have l2 : gs.length = ks.length := Paired.length pr
  have l0 := rds_len rg
  refine Calls.call_function_entry PyProof.Rows.kind_sorted PyProof.Rows.plain_sorted PyProof.Rows.entry_sorted (PyProof.Rows.args_sorted1 _) ?_
  unfold Builtin.«sorted»
  refine wpAny_bind (m := checkCount "sorted" 1 1 _) (wpAny_pure ?_)
  refine wpAny_bind (PySem.W.kdu_collect (A := X.A.in1) (kdl_raw hs hx hdt) (I.ok.hd hc) ho (by omega) fun h' tk' acc hk hacc => ?_)
  have ea : acc.toList = ks.map fun x => Value.ref x.2.1 := by
    have hl : acc.toList.length = ks.length := by rw [Array.length_toList, hacc.1]; exact l1
    apply List.ext_getElem?
    intro j
    rw [List.getElem?_map]
    cases hj : acc.toList[j]? with
    | none =>
      have h1 := List.getElem?_eq_none_iff.mp hj
      rw [List.getElem?_eq_none (by omega)]
      all_goals rfl
    | some v =>
      obtain ⟨en, hen, hv⟩ := hacc.2 j v (by rw [← Array.getElem?_toList]; exact hj)
      have qe := entry_at he j
      rw [hen] at qe
      cases hb : ks[j]? with
      | none =>
        rw [hb] at qe
        exact nomatch (show some en = none from qe)
      | some b =>
        rw [hb] at qe
        have e2 : en = entryOfKey (tupleKind (mixKind X.prog X.w)) b := Option.some.inj qe
        rw [hv, e2]
        all_goals rfl
  have rv : Vals (ks.map fun x => V.ref x.2.1) acc.toList := by
    rw [ea]
    have h := vals_refs (ks.map fun x => x.2.1)
    rw [List.map_map, List.map_map] at h
    exact h
  generalize acc.toList = its at rv
  have I1 : Inv X pins σ H { s with heap := h', toks := tk' } := I.kept hk
  have lits : its.length ≤ sizeLine := by
    rw [← rv.length, List.length_map, ← l2]
    exact z
  obtain ⟨e1, e2⟩ := each_of I1 R' (kvs.map fun p => tk p.1) ps _ its rk hp rv
  have hpl := toPs_len hp
  generalize (kvs.map fun p => tk p.1) = xs' at e1 e2 q hpl
  have em : (xs'.zip ps).map Prod.snd = ps := List.map_snd_zip (by omega)
  have lz : (xs'.zip ps).length = xs'.length := by rw [List.length_zip]; omega
  refine wpAny_bind (wpAny_newList ?_ lits)
  have hoL : (h'.push (seqObj "list" its.toArray 0)).get? h'.objs.size = some (seqObj "list" its.toArray 0) := Heap.get?_push_size _ rfl
  show wpAny _ _ _ _ _ { s with heap := h'.push (seqObj "list" its.toArray 0), toks := tk' }
  have old : ∀ b o, h'.get? b = some o → (sortingHeap (h'.push (seqObj "list" its.toArray 0)) h'.objs.size its).get? b = some o := fun b o e => sortingHeap_old (Nat.ne_of_lt (Heap.lt_size e)) (Heap.get?_push_of_some _ e)
  have e3 : EachIs (fun u (b : DV × PyData) => ∃ as, Reads (sortingHeap (h'.push (seqObj "list" its.toArray 0)) h'.objs.size its) u b.2 as) its (xs'.zip ps) := e2.mono fun _ _ ⟨as, r⟩ => ⟨as, PyProof.Rows.Reads.keeps old r⟩
  refine wpAny_bind (wpAny_holding (wpAny_call_entry PyProof.Rows.slot_list_sort ⟨_, hoL, rfl⟩ PyProof.Rows.entry_list_sort
    (list_sort_vals (κ := dataKind (sortingHeap (h'.push (seqObj "list" its.toArray 0)) h'.objs.size its) ((xs'.zip ps).map Prod.snd)) (s := { s with heap := h'.push (seqObj "list" its.toArray 0), toks := tk' }) hoL
      (SortsAt.data (s := { s with heap := sortingHeap (h'.push (seqObj "list" its.toArray 0)) h'.objs.size its, toks := tk' }) (each_map (R := fun v d => ∃ as, Reads (sortingHeap (h'.push (seqObj "list" its.toArray 0)) h'.objs.size its) v d as) Prod.snd e3) (by rw [em]; exact hal) (by rw [em]; exact hso) fun d hdm => ?_) lits ⟨_, rfl, ?_⟩)
    (PyProof.Rows.args_list_sort _)))
  · rw [em] at hdm
    have := hd d hdm
    show X.A.units + 2 + d.depth < cLine
    omega
  · have er := sortVals_data (h' := sortingHeap (h'.push (seqObj "list" its.toArray 0)) h'.objs.size its) (enc := Prod.snd) false e1 e3 (by rw [em]; exact hal)
    obtain ⟨vs', g1, g2⟩ := each_back er
    have hlo := sortVals_length (κ := dataKind (sortingHeap (h'.push (seqObj "list" its.toArray 0)) h'.objs.size its) ((xs'.zip ps).map Prod.snd)) false (ks := its) (vs := its) rfl
    generalize sortVals (dataKind (sortingHeap (h'.push (seqObj "list" its.toArray 0)) h'.objs.size its) ((xs'.zip ps).map Prod.snd)) false its its = out at er g2 hlo
    obtain ⟨e', he'⟩ := PyProof.Rows.sortedHeap_at (vs := its) (out := out.toArray) hoL
    have hlen : vs'.length ≤ sizeLine := by
      rw [g2.length, hlo]
      exact lits
    have kq' : KQ (RV X.K) X.K ⟨Γ.A, G', Γ.F, Γ.T⟩ Qd Q := fun Γ2 S2 H2 d v e R2 r2 q2 => kq Γ2 S2 H2 d v (E'.trans e) R2 r2 q2
    refine wpAny_pure ⟨_, rfl, .ref h'.objs.size, upd H h'.objs.size (.lst vs'), I1.laid (t' := tk') (fun b u e => ?_) (Nat.le_refl _) ⟨hlen, out, e', g2, he'⟩, rfl, kq'.newL R' (I1.hok.fresh (Nat.le_refl _)) g1 q⟩
    have hb : b < h'.objs.size := Heap.lt_size e
    rw [PyProof.Rows.sortedHeap_old (Nat.ne_of_lt hb) (by rw [size_push']; exact Nat.lt_succ_of_lt hb)]
    exact Heap.get?_push_of_some _ e
theorem d_dct1 {W : WX} {k v : Expr} {mk mv : ME} {pos : Pos} (hu : X.A.units + 64 < cLine) (hk : DE X noW k mk) (hv : DE X noW v mv) : DE X W (.Dict [some k] [v] pos) (fun δ S Q _ => mDctO1 mk mv δ S Q noE) := by
  refine ⟨fun pins s σ H Q I h => ?_⟩
  obtain ⟨Γ, S, δ, Qd, Ed, c, m, kq, ke⟩ := h
  have hp : H s.heap.objs.size = none := I.hok.fresh (Nat.le_refl _)
  have I1 := I.laid (a := s.heap.objs.size) (o := .dT []) (h' := s.heap.push { cls := .type "dict", data := .dict #[] }) (t' := s.toks) (fun _ _ q => Heap.get?_push_of_some _ q) (Nat.le_refl _) (dt_empty s.heap I.big)
  have hF := c.rs.noF hp
  refine wpAny_Dict_any rfl rfl (by simp) (by simp) ?_
  generalize s.heap.objs.size = p at *
  have c1 : Cf X.K ⟨Γ.A, Γ.G, upd Γ.F p (.dT []), Γ.T⟩ S (upd H p (.dT [])) δ σ := ⟨c.rs.hold hp _, c.len, c.ls⟩
  refine pairTrees_cons_walk (thn (hk.run pins _ σ _ (fun x H1 => tG (RV X.K) X.K noW mv σ H1 fun y H2 => ∃ A2 G2 S2 k d, Ext Γ ⟨A2, G2, Γ.F, Γ.T⟩ ∧ Rs X.K ⟨A2, G2, upd Γ.F p (.dT []), Γ.T⟩ S2 H2 ∧ RV X.K ⟨A2, G2, Γ.F, Γ.T⟩ (tk k) x ∧ RV X.K ⟨A2, G2, Γ.F, Γ.T⟩ d y ∧ Qd (.ref S2.length) (S2 ++ [some (.dct [(k, d)])])) I1
    ⟨_, S, δ, _, noE, c1, m, fun ⟨A1, G1, F1, T1⟩ S1 H1 d1 v1 e1 R1 r1 q1 => ?_, fun _ _ _ _ _ _ _ _ _ z => z.elim⟩) fun u s1 ⟨x, H1, I2, rx, q1⟩ => thn (hv.run pins s1 σ H1 _ I2 q1) fun w2 s2 ⟨y, H2, I3, ry, q2⟩ => pairTrees_nil_walk ?_)
  · obtain rfl : F1 = upd Γ.F p (.dT []) := e1.eqF
    obtain rfl : T1 = Γ.T := e1.eqT
    refine ⟨_, S1, δ, _, noE, c1.mk' R1 e1, q1, fun ⟨A2, G2, F2, T2⟩ S2 H2 d2 v2 e2 R2 r2 ⟨k, hk1, q2⟩ => ?_, fun _ _ _ _ _ _ _ _ _ z => z.elim⟩
    obtain rfl : F2 = upd Γ.F p (.dT []) := e2.eqF
    obtain rfl : T2 = Γ.T := e2.eqT
    subst hk1
    exact ⟨A2, G2, S2, k, d2, ⟨(e1.trans e2).pre, (e1.trans e2).sub, rfl, rfl⟩, R2, RV.mono e2 _ _ r1, r2, q2⟩
  · obtain ⟨A2, G2, S2, k, d, e2, R2, rk, rd, q2⟩ := q2
    obtain ⟨b, rfl, hb⟩ := key_ref rk
    obtain rfl : u = Value.ref b := rx
    have hp2 : H2 p = some (.dT []) := R2.fsub p _ upd_same
    have hb2 : H2 b = some (.tup ((dK k).map kV)) := R2.sub _ _ hb
    obtain ⟨z, hd, xs, rel, dd⟩ := dt_of I3.hok hp2
    cases rel
    unfold storeAll
    rw [List.forIn_cons]
    refine wpAny_bind (wpAny_bind (wpAny_dictSet_heap (hsz := Nat.zero_le _) (knd := tupleKind (mixKind X.prog X.w)) (show X.A.units < cLine by omega) (key_of I3.hok hb2) dd fun h' dd' hs => wpAny_pure ?_))
    show wpAny (model X.prog X.w) X.A (forIn [] PUnit.unit _) _ _ _
    rw [List.forIn_nil]
    refine wpAny_pure ?_
    have r1 : KT H2 (putK [] (dK k) y) (storedH [] (dK k) b w2) := KT.put (Paired.nil : KT H2 [] []) (dK k) hb2 ry
    obtain ⟨q, es, ep, hq, h2, h3, h4, _, h5⟩ := dd'
    have I4 := d_write (t' := s2.toks + (tupleKind (mixKind X.prog X.w)).draws (dK k)) I3 (by rw [hp2]; exact True.intro) hs ⟨q, hq⟩ (ob := .dT [(dK k, y)]) ⟨by rw [sizeLine_eq]; simp, hd, _, r1.keeps fun c ys ec => by
      rw [upd_ne (ne_of ec hp2 (fun z => nomatch z))]
      exact ec, q, es, ep, hq, h2, h3, h4, h5⟩
    have R3 := R2.held (p := p) (o0 := .dT []) upd_same (.dT [(dK k, y)])
    rw [upd_upd] at R3
    have R4 := R3.givePush (F0 := Γ.F) rfl hF (d := .dct [(k, d)]) ⟨[(dK k, y)], rfl, y, [], rfl, rd, rfl⟩
    have E4 : Ext Γ ⟨A2 ++ [p], G2, Γ.F, Γ.T⟩ := e2.trans (Ext.push p)
    have hl : A2.length = S2.length := R2.len
    exact ⟨.ref p, _, I4, rfl, kq _ _ _ (.ref S2.length) _ E4 R4 ⟨p, by show (A2 ++ [p])[S2.length]? = some p; rw [← hl]; simp, rfl⟩ q2⟩
/-- a list that is not changed from here on -/
def mFz (a : ME) : ME := fun δ S Q E => a δ S (fun x S1 => ∃ i ds, x = .ref i ∧ S1[i]? = some (some (.lst ds)) ∧ Q (.lst ds) (S1.set i none)) E
theorem d_fz {W : WX} {e : Expr} {me : ME} (he : DE X W e me) : DE X W e (mFz me) :=
  PE.imp he fun σ H Q ⟨Γ, S, δ, Qd, Ed, c, m, kq, ke⟩ => ⟨Γ, S, δ, _, Ed, c, m, fun Γ1 S1 H1 d1 v1 e1 R1 r1 ⟨i, ds, h1, h2, q⟩ => by
    subst h1
    obtain ⟨a, rfl, hA, us, hv, rus⟩ := R1.ref r1 h2
    obtain ⟨R2, e2⟩ := R1.freeze h2 hA hv
    exact kq _ _ _ (.lst ds) _ (e1.trans e2) R2 ⟨a, us, rfl, upd_same, RVs.mono e2 _ _ rus⟩ q, ke⟩
end
end DL
namespace LB
open PySem PySem.Spec PyProof.Rows L2 DL
noncomputable def b_all_steps : MS := shut ((mRet (mLc2 (iR1 (mCons (mCall gLen (mCons (mOp fIx (mVar 0) (mC (.int 1))) mNil)) mNil)) (.nm 1) (iS (mTup (mCons (mC (.bl false)) (mCons (mC (.bl true)) mNil)))) (.nm 2) (mTup (mCons (mVar 1) (mCons (mVar 2) mNil))) [1, 2] [2])))
theorem b_all_steps_e : b_all_steps = (mRet (mLc2 (iR1 (mCons (mCall gLen (mCons (mOp fIx (mVar 0) (mC (.int 1))) mNil)) mNil)) (.nm 1) (iS (mTup (mCons (mC (.bl false)) (mCons (mC (.bl true)) mNil)))) (.nm 2) (mTup (mCons (mVar 1) (mCons (mVar 2) mNil))) [1, 2] [2])) := shut_eq _
noncomputable def m_all_steps : GX := shut (mBody 3 b_all_steps)
theorem m_all_steps_e : m_all_steps = mBody 3 b_all_steps := shut_eq _
noncomputable def r_rings_1 : MS := shut ((mDPut (mVar 6) (mVar 9) (mC (.bl true))))
theorem r_rings_1_e : r_rings_1 = (mDPut (mVar 6) (mVar 9) (mC (.bl true))) := shut_eq _
noncomputable def r_rings_2 : MS := shut ((mIfS (mAnd (mT (mOp (fIs fun b => !b) (mVar 9) (mC .non))) (mT (mOp (fInD fun b => !b) (mVar 9) (mVar 3)))) (mSeq (mDPut (mVar 3) (mVar 9) (mC (.bl true)))
  r_rings_1) mNext))
theorem r_rings_2_e : r_rings_2 = (mIfS (mAnd (mT (mOp (fIs fun b => !b) (mVar 9) (mC .non))) (mT (mOp (fInD fun b => !b) (mVar 9) (mVar 3)))) (mSeq (mDPut (mVar 3) (mVar 9) (mC (.bl true)))
  r_rings_1) mNext) := shut_eq _
noncomputable def f_rings_1 : MS := shut ((mSeq (mSet 9 (mCallF 3 m_moved (mCons (mOp fIx (mVar 0) (mC (.int 1))) (mCons (mVar 7) (mCons (mVar 8) mNil)))))
  r_rings_2))
theorem f_rings_1_e : f_rings_1 = (mSeq (mSet 9 (mCallF 3 m_moved (mCons (mOp fIx (mVar 0) (mC (.int 1))) (mCons (mVar 7) (mCons (mVar 8) mNil)))))
  r_rings_2) := shut_eq _
noncomputable def f_rings_2 : MS := shut ((mFor (iS (mCallF 1 m_all_steps (mCons (mVar 0) mNil))) (gTg (.nm 8)) f_rings_1))
theorem f_rings_2_e : f_rings_2 = (mFor (iS (mCallF 1 m_all_steps (mCons (mVar 0) mNil))) (gTg (.nm 8)) f_rings_1) := shut_eq _
noncomputable def r_rings_3 : MS := shut ((mExpr (mMeth "list" gAppend (mVar 4) (mCons (mCall gSortedD (mCons (mVar 6) mNil)) mNil))))
theorem r_rings_3_e : r_rings_3 = (mExpr (mMeth "list" gAppend (mVar 4) (mCons (mCall gSortedD (mCons (mVar 6) mNil)) mNil))) := shut_eq _
noncomputable def r_rings_4 : MS := shut ((mSeq (mFor (iS (mOp fIx (mVar 4) (mUn fNeg (mC (.int 1))))) (gTg (.nm 7)) f_rings_2)
  r_rings_3))
theorem r_rings_4_e : r_rings_4 = (mSeq (mFor (iS (mOp fIx (mVar 4) (mUn fNeg (mC (.int 1))))) (gTg (.nm 7)) f_rings_2)
  r_rings_3) := shut_eq _
noncomputable def f_rings_3 : MS := shut ((mSeq (mSet 6 mDctO0)
  r_rings_4))
theorem f_rings_3_e : f_rings_3 = (mSeq (mSet 6 mDctO0)
  r_rings_4) := shut_eq _
noncomputable def r_rings_5 : MS := shut ((mRet (mFz (mVar 4))))
theorem r_rings_5_e : r_rings_5 = (mRet (mFz (mVar 4))) := shut_eq _
noncomputable def r_rings_6 : MS := shut ((mSeq (mFor (iR1 (mCons (mVar 2) mNil)) (gTg (.nm 5)) f_rings_3)
  r_rings_5))
theorem r_rings_6_e : r_rings_6 = (mSeq (mFor (iR1 (mCons (mVar 2) mNil)) (gTg (.nm 5)) f_rings_3)
  r_rings_5) := shut_eq _
noncomputable def b_rings : MS := shut ((mSeq (mPar2 3 4 (mCons (fun δ S Q _ => mDctO1 (mVar 1) (mC (.bl true)) δ S Q noE) (mCons (mLstO (mCons (mLst (mCons (mVar 1) mNil)) mNil)) mNil)))
  r_rings_6))
theorem b_rings_e : b_rings = (mSeq (mPar2 3 4 (mCons (fun δ S Q _ => mDctO1 (mVar 1) (mC (.bl true)) δ S Q noE) (mCons (mLstO (mCons (mLst (mCons (mVar 1) mNil)) mNil)) mNil)))
  r_rings_6) := shut_eq _
noncomputable def m_rings : GX := shut (mBody 10 b_rings)
theorem m_rings_e : m_rings = mBody 10 b_rings := shut_eq _
noncomputable def r_shortest_1 : MS := shut (mBreak)
theorem r_shortest_1_e : r_shortest_1 = mBreak := shut_eq _
noncomputable def r_shortest_2 : MS := shut ((mSeq (mSet 7 (mVar 10))
  r_shortest_1))
theorem r_shortest_2_e : r_shortest_2 = (mSeq (mSet 7 (mVar 10))
  r_shortest_1) := shut_eq _
noncomputable def r_shortest_3 : MS := shut ((mIfS (mAnd (mT (mOp (fIs fun b => !b) (mVar 10) (mC .non))) (mT (mOp (fEq fun b => b) (mDGet2 (mVar 4) (mVar 10) (mOp fAdd (mVar 3) (mC (.int 1)))) (mOp fSub (mDGet (mVar 4) (mVar 7)) (mC (.int 1)))))) (mSeq (mExpr (mMeth "list" gAppend (mVar 8) (mCons (mVar 9) mNil)))
  r_shortest_2) mNext))
theorem r_shortest_3_e : r_shortest_3 = (mIfS (mAnd (mT (mOp (fIs fun b => !b) (mVar 10) (mC .non))) (mT (mOp (fEq fun b => b) (mDGet2 (mVar 4) (mVar 10) (mOp fAdd (mVar 3) (mC (.int 1)))) (mOp fSub (mDGet (mVar 4) (mVar 7)) (mC (.int 1)))))) (mSeq (mExpr (mMeth "list" gAppend (mVar 8) (mCons (mVar 9) mNil)))
  r_shortest_2) mNext) := shut_eq _
noncomputable def f_shortest_3 : MS := shut ((mSeq (mSet 10 (mCallF 3 m_moved (mCons (mOp fIx (mVar 0) (mC (.int 1))) (mCons (mVar 7) (mCons (mVar 9) mNil)))))
  r_shortest_3))
theorem f_shortest_3_e : f_shortest_3 = (mSeq (mSet 10 (mCallF 3 m_moved (mCons (mOp fIx (mVar 0) (mC (.int 1))) (mCons (mVar 7) (mCons (mVar 9) mNil)))))
  r_shortest_3) := shut_eq _
end LB
/-! D layer, part 43: lists of the store that are read side by side, added, told with their places. -/
namespace DL
open PySem PySem.Spec PyProof.Rows L2 PySem.W
section
variable {K : PySem.W.Frag} {Γ : AG} {S : Store} {H : Hp}
theorem RO.ntup {d : DO} {o : HO} (h : RO K Γ d (some o)) : ∀ xs, o ≠ .tup xs := by
  intro xs e
  subst e
  cases d with
  | lst ds => obtain ⟨vs, h1, h2⟩ := h; cases h1
  | ins C fs => obtain ⟨dx, gs, h1, h2⟩ := h; cases h1
  | dct kvs => obtain ⟨gs, h1, h2⟩ := h; cases h1
  | pp ks => obtain ⟨_, _, h1, h2⟩ := h; cases h1
/-- an object of the store is kept apart for a while -/
theorem Rs.keep (R : Rs K Γ S H) {i : Nat} {a : Addr} {d0 : DO} {o : HO} (hi : S[i]? = some (some d0)) (ha : Γ.A[i]? = some a) (ho : H a = some o) : Rs K ⟨Γ.A, Γ.G, upd Γ.F a o, Γ.T⟩ (S.set i none) H := by
  obtain ⟨a', h1, h2, h3⟩ := R.obj i d0 hi
  rw [ha] at h1
  cases h1
  have hil : i < S.length := (List.getElem?_eq_some_iff.mp hi).1
  have keyN : ∀ {m : Nat} {x : DO}, (S.set i none)[m]? = some (some x) → m ≠ i ∧ S[m]? = some (some x) := by
    intro m x em
    by_cases hm : m = i
    · subst hm
      rw [List.getElem?_set_self hil] at em
      cases em
    · rw [List.getElem?_set_ne (Ne.symm hm)] at em
      exact ⟨hm, em⟩
  refine ⟨R.sub, by rw [List.length_set]; exact R.len, fun j u e => R.obj j u (keyN e).2, fun b u e => ?_, fun b u e => ?_, fun j b u e hb => ?_, fun j k b u w ej ek hj hk => R.inj j k b u w (keyN ej).2 (keyN ek).2 hj hk, fun q hq => ?_, fun b u e xs => ?_⟩
  · have e' : upd Γ.F a o b = some u := e
    by_cases hb : b = a
    · subst hb
      rw [upd_same] at e'
      rw [ho]
      exact e'
    · rw [upd_ne hb] at e'
      exact R.fsub b u e'
  · have e' : upd Γ.F a o b = some u := e
    by_cases hb : b = a
    · rw [hb]
      exact h2
    · rw [upd_ne hb] at e'
      exact R.fdis b u e'
  · show upd Γ.F a o b = none
    obtain ⟨hj, e2⟩ := keyN e
    have hne : b ≠ a := fun q => by
      subst q
      exact hj (R.inj j i b u d0 e2 hi hb ha)
    rw [upd_ne hne]
    exact R.fapt j b u e2 hb
  · obtain ⟨g1, g2, g3⟩ := R.tab q hq
    have hne : q.1 ≠ a := fun z => by
      rw [z] at g1
      exact h3.ntab g1
    refine ⟨g1, g2, ?_⟩
    show upd Γ.F a o q.1 = none
    rw [upd_ne hne]
    exact g3
  · have e' : upd Γ.F a o b = some u := e
    by_cases hb : b = a
    · subst hb
      rw [upd_same] at e'
      cases e'
      rw [ho] at h3
      exact h3.ntup xs
    · rw [upd_ne hb] at e'
      exact R.fnt b u e' xs
/-- it is given back -/
theorem Rs.back {F0 : Hp} (R : Rs K Γ S H) {i : Nat} {a : Addr} {d : DO} {o : HO} (hF : Γ.F = upd F0 a o) (h0 : F0 a = none) (hi : S[i]? = some none) (ha : Γ.A[i]? = some a) (ho : RO K Γ d (some o)) : Rs K ⟨Γ.A, Γ.G, F0, Γ.T⟩ (S.set i (some d)) H := by
  have hp : Γ.F a = some o := by rw [hF]; exact upd_same
  have hil : i < S.length := (List.getElem?_eq_some_iff.mp hi).1
  have nF : ∀ {b : Addr}, b ≠ a → F0 b = Γ.F b := fun {b} hne => by rw [hF, upd_ne hne]
  have key : ∀ {k : Nat} {x : DO} {b : Addr}, (S.set i (some d))[k]? = some (some x) → Γ.A[k]? = some b → (S[k]? = some (some x) ∧ b ≠ a) ∨ (k = i ∧ b = a ∧ x = d) := by
    intro k x b ek hk
    by_cases hl : k = i
    · subst hl
      rw [List.getElem?_set_self hil] at ek
      cases ek
      rw [ha] at hk
      cases hk
      exact .inr ⟨rfl, rfl, rfl⟩
    · rw [List.getElem?_set_ne (Ne.symm hl)] at ek
      exact .inl ⟨ek, fun q => by
        subst q
        rw [R.fapt k b x ek hk] at hp
        cases hp⟩
  refine ⟨R.sub, by rw [List.length_set]; exact R.len, fun j u e => ?_, fun b u e => ?_, fun b u e => ?_, fun j b u e hb => ?_, fun j k b u w ej ek hj hk => ?_, fun q hq => ?_, fun b u e xs => ?_⟩
  · by_cases hj : j = i
    · subst hj
      rw [List.getElem?_set_self hil] at e
      cases e
      exact ⟨a, ha, R.fdis a o hp, by rw [R.fsub a o hp]; exact ho⟩
    · rw [List.getElem?_set_ne (Ne.symm hj)] at e
      exact R.obj j u e
  · have e' : F0 b = some u := e
    have hne : b ≠ a := fun q => by
      subst q
      rw [h0] at e'
      cases e'
    exact R.fsub b u (by rw [← nF hne]; exact e')
  · have e' : F0 b = some u := e
    have hne : b ≠ a := fun q => by
      subst q
      rw [h0] at e'
      cases e'
    exact R.fdis b u (by rw [← nF hne]; exact e')
  · show F0 b = none
    rcases key e hb with ⟨h1, h2⟩ | ⟨_, h2, _⟩
    · rw [nF h2]
      exact R.fapt j b u h1 hb
    · rw [h2]
      exact h0
  · rcases key ej hj with ⟨h1, h2⟩ | ⟨h1, h2, _⟩
    · rcases key ek hk with ⟨g1, _⟩ | ⟨_, g2, _⟩
      · exact R.inj j k b u w h1 g1 hj hk
      · exact absurd g2 h2
    · rcases key ek hk with ⟨_, g2⟩ | ⟨g1, _, _⟩
      · exact absurd h2 g2
      · rw [h1, g1]
  · obtain ⟨g1, g2, g3⟩ := R.tab q hq
    have hne : q.1 ≠ a := fun z => by
      rw [z, hp] at g3
      cases g3
    refine ⟨g1, g2, ?_⟩
    show F0 q.1 = none
    rw [nF hne]
    exact g3
  · have e' : F0 b = some u := e
    have hne : b ≠ a := fun q => by
      subst q
      rw [h0] at e'
      cases e'
    exact R.fnt b u (by rw [← nF hne]; exact e') xs
end
/-! ### a comprehension over zip of two lists of the store -/
section
variable {X : Cx} {W : WX} {elt iter : Expr} {tg : Expr} {ifs : List Expr} {scope : Scope} {own : List (Str × Nat)} {pos : Pos} {mas : MA} {t : Tg} {mt : MT} {me : ME}
end
/-! ### sums of lists of the store -/
/-! ### slices of lists of the store -/
/-! ### enumerate of a list of the store that is given up -/
end DL
/-! D layer, part 44: zip of two or three things, lists and tuples in any mix; lists of the store are given up to the walk. -/
namespace ZM
open PySem PySem.Spec PyProof.Rows L2
inductive ZK | l | t
def ZK.Sq (K : PySem.W.Frag) (H : Hp) : ZK → Addr → List V → Prop
  | .l, a, xs => SqL K H a xs
  | .t, a, xs => SqT K H a xs
def ZK.It (h : Heap) : ZK → Addr → Addr → Nat → Prop
  | .l, it, a, i => h.IsListIter it a i
  | .t, it, a, i => h.IsTupleIter it a i
def ZK.Is (h : Heap) : ZK → Addr → Array Value → Prop
  | .l, a, xs => h.IsList a xs
  | .t, a, xs => h.IsTuple a xs
def ZK.ob : ZK → Addr → Obj
  | .l, a => { cls := .type "list_iterator", data := .fields #[.ref a, .int 0 0] }
  | .t, a => { cls := .type "tuple_iterator", data := .fields #[.ref a, .int 0 0] }
theorem ZK.draws {prog : Program} {w : World} {A : Around} (hh : A.handled = none) (k : ZK) (it l : Addr) (hne : l ≠ it) (xs : Array Value) : Draws prog w A it [it, l] xs.size (fun i v => xs[i]? = some v) (fun i h => k.It h it l i ∧ k.Is h l xs) := by
  cases k
  · exact Draws.list hh it l hne xs
  · exact Draws.tuple hh it l hne xs
theorem ZK.It.at {h h' : Heap} {k : ZK} {it l : Addr} {i : Nat} (x : k.It h it l i) (e : ∀ o, h.get? it = some o → h'.get? it = some o) : k.It h' it l i := by
  cases k
  · exact Heap.IsListIter.at x e
  · exact Heap.IsTupleIter.at x e
theorem ZK.It.obj {h : Heap} {k : ZK} {it l : Addr} {i : Nat} (x : k.It h it l i) : ∃ o, h.get? it = some o ∧ ∀ v, o.data ≠ .cell v := by
  cases k
  · obtain ⟨o, e, _, d⟩ := x
    exact ⟨o, e, fun v q => by rw [d] at q; cases q⟩
  · obtain ⟨o, e, _, d⟩ := x
    exact ⟨o, e, fun v q => by rw [d] at q; cases q⟩
theorem ZK.inj {X : Cx} {pins : List (Addr × Obj)} {σ : L2.St} {H : Hp} {s : Shared} (I : Inv X pins σ H s) {k : ZK} {a : Addr} {xs ys : List V} (h : k.Sq X.K H a xs) (g : k.Sq X.K H a ys) : xs = ys := by
  cases k
  · exact I.list_inj h g
  · exact I.tuple_inj h g
theorem ZK.sub {K : PySem.W.Frag} {H H' : Hp} {k : ZK} {a : Addr} {xs : List V} (h : k.Sq K H a xs) (e : ∀ a o, H a = some o → H' a = some o) : k.Sq K H' a xs := by
  cases k
  · exact DL.sqL_sub e h
  · exact DL.sqT_sub e h
/-! ### two -/
/-! ### three -/
/-! ### the calls -/
end ZM
namespace DL
open PySem PySem.Spec PyProof.Rows L2 PySem.W ZM
section
variable {X : Cx} {W : WX} {mas : MA} {elts : List Expr} {kk : Nat} {tpos p pos : Pos}
end
end DL
namespace LB
open PySem PySem.Spec PyProof.Rows L2 DL
noncomputable def r__law_around_1 : MS := shut ((mIfS (mT (mOp (fIs fun b => !b) (mVar 5) (mC .non))) (mExpr (mMeth "list" gAppend (mVar 2) (mCons (mVar 5) mNil))) mNext))
theorem r__law_around_1_e : r__law_around_1 = (mIfS (mT (mOp (fIs fun b => !b) (mVar 5) (mC .non))) (mExpr (mMeth "list" gAppend (mVar 2) (mCons (mVar 5) mNil))) mNext) := shut_eq _
noncomputable def f__law_around_1 : MS := shut ((mSeq (mSet 5 (mCallF 4 m__law_behind (mCons (mVar 0) (mCons (mVar 1) (mCons (mVar 3) (mCons (mVar 4) mNil))))))
  r__law_around_1))
theorem f__law_around_1_e : f__law_around_1 = (mSeq (mSet 5 (mCallF 4 m__law_behind (mCons (mVar 0) (mCons (mVar 1) (mCons (mVar 3) (mCons (mVar 4) mNil))))))
  r__law_around_1) := shut_eq _
noncomputable def f__law_around_2 : MS := shut ((mFor (iS (mTup (mCons (mC (.bl false)) (mCons (mC (.bl true)) mNil)))) (gTg (.nm 4)) f__law_around_1))
theorem f__law_around_2_e : f__law_around_2 = (mFor (iS (mTup (mCons (mC (.bl false)) (mCons (mC (.bl true)) mNil)))) (gTg (.nm 4)) f__law_around_1) := shut_eq _
noncomputable def r__law_around_2 : MS := shut ((mRet (mFz (mVar 2))))
theorem r__law_around_2_e : r__law_around_2 = (mRet (mFz (mVar 2))) := shut_eq _
noncomputable def r__law_around_3 : MS := shut ((mSeq (mFor (iR1 (mCons (mCall gLen (mCons (mVar 0) mNil)) mNil)) (gTg (.nm 3)) f__law_around_2)
  r__law_around_2))
theorem r__law_around_3_e : r__law_around_3 = (mSeq (mFor (iR1 (mCons (mCall gLen (mCons (mVar 0) mNil)) mNil)) (gTg (.nm 3)) f__law_around_2)
  r__law_around_2) := shut_eq _
noncomputable def b__law_around : MS := shut ((mSeq (mSet 2 (mLstO mNil))
  r__law_around_3))
theorem b__law_around_e : b__law_around = (mSeq (mSet 2 (mLstO mNil))
  r__law_around_3) := shut_eq _
noncomputable def m__law_around : GX := shut (mBody 6 b__law_around)
theorem m__law_around_e : m__law_around = mBody 6 b__law_around := shut_eq _
noncomputable def r__law_near_1 : MS := shut ((mSet 2 (mCallF 2 m__law_one (mCons (mVar 0) (mCons (mOp fAdd (mVar 5) (mLst (mCons (mVar 2) mNil))) mNil)))))
theorem r__law_near_1_e : r__law_near_1 = (mSet 2 (mCallF 2 m__law_one (mCons (mVar 0) (mCons (mOp fAdd (mVar 5) (mLst (mCons (mVar 2) mNil))) mNil)))) := shut_eq _
noncomputable def f__law_near_1 : MS := shut ((mSeq (mSet 5 (mCallF 2 m__law_around (mCons (mOp fIx (mVar 1) (mC (.int 1))) (mCons (mVar 2) mNil))))
  r__law_near_1))
theorem f__law_near_1_e : f__law_near_1 = (mSeq (mSet 5 (mCallF 2 m__law_around (mCons (mOp fIx (mVar 1) (mC (.int 1))) (mCons (mVar 2) mNil))))
  r__law_near_1) := shut_eq _
noncomputable def r__law_near_2 : MS := shut ((mRet (mVar 2)))
theorem r__law_near_2_e : r__law_near_2 = (mRet (mVar 2)) := shut_eq _
noncomputable def b__law_near : MS := shut ((mSeq (mFor (iR1 (mCons (mVar 3) mNil)) (gTg (.nm 4)) f__law_near_1)
  r__law_near_2))
theorem b__law_near_e : b__law_near = (mSeq (mFor (iR1 (mCons (mVar 3) mNil)) (gTg (.nm 4)) f__law_near_1)
  r__law_near_2) := shut_eq _
noncomputable def m__law_near : GX := shut (mBody 6 b__law_near)
theorem m__law_near_e : m__law_near = mBody 6 b__law_near := shut_eq _
end LB
/-! D layer, part 45: loops over lists of the store that the turns leave as they are; remove, index. -/
namespace DL
open PySem PySem.Spec PyProof.Rows L2 PySem.W ZM
/-! ### loops over what stays -/
abbrev MIP := DEnv → Store → (List DV → (Store → Prop) → Store → Prop) → MX → Prop
section
variable {X : Cx} {W : WX} {tg iter : Expr} {b : List Stmt} {mb : MS} {pos p : Pos}
end
/-! ### remove, index -/
section
variable {X : Cx}
end
end DL
/-! D layer, part 64: a generator's body: yields, for loops. While it sleeps the consumer's list grows by what came, and some objects of the consumer's own may change. -/
namespace DL
open PySem PySem.Spec PyProof.Rows L2 GenW
structure SlpC (co : List Addr) (S : Addr) (v : Value) (s s' : Shared) : Prop where
  os : s'.os = s.os
  bare : AllBare s'.gens
  keep : ∀ b o, b ≠ S → b ∉ co → s.heap.get? b = some o → s'.heap.get? b = some o
  own : ∀ acc c, s.heap.get? S = some (lstObj acc c) → ∃ c', s'.heap.get? S = some (lstObj (acc.push v) c')
  cos : ∀ c ∈ co, ∃ o, s'.heap.get? c = some o ∧ ∀ v, o.data ≠ .cell v
/-- the consumer's own objects as they stood when the generator was woken -/
def CoAt (co : List Addr) (cps : List (Addr × Obj)) (s₀ : Shared) : Prop := cps.map (·.1) = co ∧ ∀ p ∈ cps, s₀.heap.get? p.1 = some p.2
def GIC (X : Cx) (S : Addr) (co : List Addr) (ip : List (Addr × Obj)) (ys : List V) (σ : L2.St) (H : Hp) (s₀ s : Shared) : Prop :=
  ∃ (acc : Array Value) (c : Nat) (cps : List (Addr × Obj)), CoAt co cps s₀ ∧ Vals ys acc.toList ∧ Inv X ((S, lstObj acc c) :: (cps ++ ip)) σ H s
theorem coAt_of : ∀ (co : List Addr) (s' : Shared), (∀ c ∈ co, ∃ o, s'.heap.get? c = some o ∧ ∀ v, o.data ≠ .cell v) → ∃ cps, CoAt co cps s' ∧ ∀ p ∈ cps, ∀ v, p.2.data ≠ .cell v
  | [], s', _ => ⟨[], ⟨rfl, fun p hp => by simp at hp⟩, fun p hp => by simp at hp⟩
  | c :: co, s', h => by
    obtain ⟨o, h1, h2⟩ := h c List.mem_cons_self
    obtain ⟨cps, ⟨h3, h4⟩, h5⟩ := coAt_of co s' fun c' hc => h c' (List.mem_cons_of_mem _ hc)
    refine ⟨(c, o) :: cps, ⟨by rw [List.map_cons, h3], fun p hp => ?_⟩, fun p hp => ?_⟩
    · rcases List.mem_cons.mp hp with e | e
      · rw [e]; exact h1
      · exact h4 p e
    · rcases List.mem_cons.mp hp with e | e
      · rw [e]; exact h2
      · exact h5 p e
/-- where the generator's code stands -/
structure GCC (X : Cx) (S : Addr) (co : List Addr) (ip : List (Addr × Obj)) (A : Around) (c : Code) (fs : List Frame) (gd : Bool → Bool) : Prop where
  pn : ∀ p ∈ X.pn, p.1 ∉ S :: co
  ip : ∀ p ∈ ip, p.1 ∉ S :: co
  apart : ∀ a ∈ S :: co, Apart X a
  over : A.over c fs = X.A
  split : splitAtGen fs = none
  guard : fs.any Frame.guarded = false
  gd : gd false = false
theorem GIC.woken {X : Cx} {S : Addr} {co : List Addr} {ip : List (Addr × Obj)} {ys : List V} {x : V} {v : Value} {σ : L2.St} {H : Hp} {s₀ s s' : Shared} (hpn : ∀ p ∈ X.pn, p.1 ∉ S :: co) (hip : ∀ p ∈ ip, p.1 ∉ S :: co) (hA : ∀ a ∈ S :: co, Apart X a) (h : GIC X S co ip ys σ H s₀ s) (rv : RelV x v) (z : SlpC co S v s s') :
    GIC X S co ip (ys ++ [x]) σ H s' s' := by
  obtain ⟨acc, c, cps, ⟨hc1, hc2⟩, r, I⟩ := h
  obtain ⟨eS, hS0, hSL, hSf, _⟩ := I.pin (S, lstObj acc c) (List.mem_append_right _ List.mem_cons_self)
  have I0 : Inv X ip σ H s := I.pins_of fun p hp => I.pin p (List.mem_append_right _ (List.mem_cons_of_mem _ (List.mem_append_right _ hp)))
  obtain ⟨z1, z2, z3, z4, z5⟩ := z
  have co0 : ∀ a ∈ S :: co, H a = none ∧ a ≠ X.env.locals ∧ a ∉ X.fs := fun a ha => by
    rcases List.mem_cons.mp ha with e | e
    · rw [e]; exact ⟨hS0, hSL, hSf⟩
    · rw [← hc1] at e
      obtain ⟨p, hp, e2⟩ := List.mem_map.mp e
      obtain ⟨_, q1, q2, q3, _⟩ := I.pin p (List.mem_append_right _ (List.mem_cons_of_mem _ (List.mem_append_left _ hp)))
      rw [← e2]
      exact ⟨q1, q2, q3⟩
  have nt : ∀ b u, H b = some u → b ∉ S :: co := fun b u q hb => by rw [(co0 b hb).1] at q; cases q
  obtain ⟨c', eS'⟩ := z4 acc c eS
  have kp : ∀ b o, b ∉ S :: co → s.heap.get? b = some o → s'.heap.get? b = some o := fun b o hb e => z3 b o (fun q => hb (by rw [q]; exact List.mem_cons_self)) (fun q => hb (List.mem_cons_of_mem _ q)) e
  have J : Inv X ip σ H s' := by
    obtain ⟨hh, g, d, t, o⟩ := s'
    have ho : o = s.os := z1
    subst ho
    refine I0.step (g' := g) (t' := t) (d' := d) (ch := S :: co) (fun b hb => ?_)
      (fun b ob _ _ hc q _ => kp b ob hc q) (fun b ob _ _ hc q _ => ⟨ob.slots, kp b ob hc q⟩) (fun _ _ _ _ n => n) (fun b ob hc q => ⟨ob, kp b ob hc q⟩)
      (fun _ _ q => q) (fun _ _ _ q => q) (fun b ps q => ⟨#[], by rw [q]; simp⟩) (fun m hm => ?_) (fun b u q => ?_) z2
    · have hA' := hA b hb
      refine ⟨.inr hA'.1, hA'.2.1, hA'.2.2, fun p hp => ?_⟩
      rcases List.mem_append.mp hp with hp | hp
      · exact fun e => hpn p hp (by rw [e]; exact hb)
      · exact fun e => hip p hp (by rw [e]; exact hb)
    · obtain ⟨ob, es, ep, ho, r⟩ := hm
      exact ⟨ob, es, ep, kp _ ob (fun q => (co0 _ q).2.1 rfl) ho, r⟩
    · refine (I0.hok b u q).stay (fun c v hc y => kp c v ?_ y) (fun _ y => y) fun _ _ y => y
      rcases hc with y | y
      · rw [y]; exact nt b u q
      · exact nt c _ y
  obtain ⟨cps', ⟨k1, k2⟩, k3⟩ := coAt_of co s' z5
  refine ⟨acc.push v, c', cps', ⟨k1, k2⟩, ?_, J.pins_of fun p hp => ?_⟩
  · rw [Array.toList_push]
    exact r.append (.cons rv .nil)
  · · rcases List.mem_cons.mp hp with hp | hp
      · rw [hp]
        exact ⟨eS', hS0, hSL, hSf, fun v q => by cases q⟩
      · rcases List.mem_append.mp hp with hp | hp
        · have hm : p.1 ∈ S :: co := List.mem_cons_of_mem _ (by rw [← k1]; exact List.mem_map_of_mem hp)
          exact ⟨k2 p hp, (co0 _ hm).1, (co0 _ hm).2.1, (co0 _ hm).2.2, k3 p hp⟩
        · exact J.pin p (List.mem_append_right _ hp)
/-! ### the protocol -/
def GYC (X : Cx) (S : Addr) (co : List Addr) : Protocol := fun n s₀ v s kap =>
  ∃ ys x ip σ H, n + 1 + ys.length = sizeLine ∧ RelV x v ∧ GIC X S co ip ys σ H s₀ s ∧ ∀ s', SlpC co S v s s' → kap (.send .none) s'
abbrev TGc := (List V → L2.St → Hp → Prop) → List V → L2.St → Hp → Prop
/-- what follows -/
structure GKC (X : Cx) (S : Addr) (co : List Addr) (ip : List (Addr × Obj)) (A : Around) (R : GenEnd) (c : Code) (fs : List Frame) (K : Flow → Sem PySem.Fin) (J : Value → Sem PySem.Fin) (D : List V → L2.St → Hp → Prop) : Prop where
  ok : ∀ (n : Nat) (ys : List V) (s₀ s : Shared) (σ : L2.St) (H : Hp), n + ys.length = sizeLine → GIC X S co ip ys σ H s₀ s → D ys σ H → Seg (model X.prog X.w) A R (GYC X S co) n s₀ c (K .next) fs s
  exc : ∀ (n : Nat) (s₀ : Shared) (e : Value) (s : Shared), X.xe e s → Seg (model X.prog X.w) A R (GYC X S co) n s₀ c (J e) fs s
structure GSC (X : Cx) (st : Stmt) (t : TGc) : Prop where
  run : ∀ (A : Around) (S : Addr) (co : List Addr) (ip : List (Addr × Obj)) (R : GenEnd) (n : Nat) (ys : List V) (s₀ : Shared) (c : Code) (fs : List Frame) (K : Flow → Sem PySem.Fin) (J : Value → Sem PySem.Fin) (gd : Bool → Bool) (lv : List Value → List Value) (s : Shared) (σ : L2.St) (H : Hp) (D : List V → L2.St → Hp → Prop),
    GCC X S co ip A c fs gd → n + ys.length = sizeLine → GKC X S co ip A R c fs K J D → GIC X S co ip ys σ H s₀ s → t D ys σ H →
    Seg (model X.prog X.w) A R (GYC X S co) n s₀ c ((exec st X.env).wrap K J gd lv) fs s
structure GSsC (X : Cx) (st : List Stmt) (t : TGc) : Prop where
  run : ∀ (A : Around) (S : Addr) (co : List Addr) (ip : List (Addr × Obj)) (R : GenEnd) (n : Nat) (ys : List V) (s₀ : Shared) (c : Code) (fs : List Frame) (K : Flow → Sem PySem.Fin) (J : Value → Sem PySem.Fin) (gd : Bool → Bool) (lv : List Value → List Value) (s : Shared) (σ : L2.St) (H : Hp) (D : List V → L2.St → Hp → Prop),
    GCC X S co ip A c fs gd → n + ys.length = sizeLine → GKC X S co ip A R c fs K J D → GIC X S co ip ys σ H s₀ s → t D ys σ H →
    Seg (model X.prog X.w) A R (GYC X S co) n s₀ c ((execs st X.env).wrap K J gd lv) fs s
section
variable {X : Cx} {st : Stmt} {rest : List Stmt}
theorem gsc_nil : GSsC X [] (fun D ys σ H => D ys σ H) :=
  ⟨fun A S co ip R n ys s₀ c fs K J gd lv s σ H D g hn k hI ht => seg_execs_nil (k.ok n ys s₀ s σ H hn hI ht)⟩
theorem gsc_cons {t u : TGc} (a : GSC X st t) (b : GSsC X rest u) : GSsC X (st :: rest) (fun D ys σ H => t (fun ys' σ' H' => u D ys' σ' H') ys σ H) :=
  ⟨fun A S co ip R n ys s₀ c fs K J gd lv s σ H D g hn k hI ht => seg_execs_cons (a.run A S co ip R n ys s₀ c fs _ J gd lv s σ H _ g hn ⟨fun n' ys' s₀' s' σ' H' hn' I' q => b.run A S co ip R n' ys' s₀' c fs K J gd lv s' σ' H' D g hn' k I' q, k.exc⟩ hI ht)⟩
theorem gsc_one {t : TGc} (a : GSC X st t) : GSsC X [st] t := by
  have h := gsc_cons a (gsc_nil (X := X))
  exact h
def tYieldC (te : TE) : TGc := fun D ys σ H => ys.length < sizeLine ∧ te σ H fun x H1 => D (ys ++ [x]) σ H1
theorem gsc_yield {e : Expr} {yp pos : Pos} {te : TE} (he : PE X e te) (hco : X.env.scope.isCoroutine = false := by rfl) (hi : interactive X.env = false := by rfl) : GSC X (.Expr (.Yield (some e) yp) pos) (tYieldC te) := by
  refine ⟨fun A S co ip R n ys s₀ c fs K J gd lv s σ H D g hn k hI ht => ?_⟩
  obtain ⟨hlt, ht⟩ := ht
  obtain ⟨n, rfl⟩ : ∃ m, n = m + 1 := ⟨n - 1, by omega⟩
  obtain ⟨acc, cc, cps, hc, r, I⟩ := hI
  refine seg_Expr_Yield g.split g.gd g.guard ?_ hco hi
  rw [g.over]
  refine wpAny_mono (he.run _ s σ H _ I ht) (fun v s' hv => ?_) fun x s' hx => k.exc _ s₀ x s' hx
  obtain ⟨x, H1, I1, rv, q⟩ := hv
  have G1 : GIC X S co ip ys σ H1 s₀ s' := ⟨acc, cc, cps, hc, r, I1⟩
  intro kap hk
  refine ⟨ys, x, ip, σ, H1, hn, rv, G1, fun s'' z => hk .none s'' ?_⟩
  refine k.ok n (ys ++ [x]) s'' s'' σ H1 ?_ (G1.woken g.pn g.ip g.apart rv z) q
  rw [List.length_append, List.length_singleton]; omega
/-! ### for -/
theorem gcc_loop {S : Addr} {co : List Addr} {ip : List (Addr × Obj)} {A : Around} {c c' : Code} {fs : List Frame} {gd : Bool → Bool} {k : Result → Sem PySem.Fin} {l kp : List Value} {p : Pos} (g : GCC X S co ip A c fs gd) (hw : c'.weight = 0) (hu : c'.cUnits = 0) :
    GCC X S co ip A c' (.ret k none (gd false) l c p kp :: fs) id where
  pn := g.pn
  ip := g.ip
  apart := g.apart
  over := (over_loop hw hu).trans g.over
  split := by
    show (splitAtGen fs).map _ = none
    rw [g.split]; rfl
  guard := by
    show (gd false || fs.any Frame.guarded) = false
    rw [g.gd, g.guard]; rfl
  gd := rfl
theorem seg_cameC {S : Addr} {co : List Addr} {ip : List (Addr × Obj)} {A : Around} {R : GenEnd} {c : Code} {fs : List Frame} {K : Flow → Sem PySem.Fin} {J : Value → Sem PySem.Fin} {gd : Bool → Bool} {lv : List Value → List Value} {D : List V → L2.St → Hp → Prop} {n : Nat} {s₀ s : Shared} {e : Value}
    (g : GCC X S co ip A c fs gd) (k : GKC X S co ip A R c fs K J D) (h : cameBackBy (model X.prog X.w) X.A X.env X.xe e s) :
    Seg (model X.prog X.w) A R (GYC X S co) n s₀ c (((Sem.raise e : Sem Flow).onRaise (cameBack X.env)).wrap K J gd lv) fs s := by
  show Seg _ _ _ _ _ _ _ (((cameBack X.env e).bind fun _ => (Sem.raise e : Sem Flow)).wrap K J gd lv) _ _
  rw [Sem.bind_eq_wrap, Sem.wrap_wrap]
  refine seg_wrap ?_
  rw [g.over]
  exact wpAny_mono h (fun _ s' hx => k.exc n s₀ e s' hx) fun x s' hx => k.exc n s₀ x s' hx
/-- an exception is noted -/
abbrev notedW (env : Env) (x : Value) : Sem PySem.Fin := (do noteFrame x env; theTreesLotGoes x : Sem Unit).wrap (fun _ => .raise x) .raise id id
theorem seg_forLoop {prog : Program} {w : World} {A : Around} {R : GenEnd} {Y : Protocol} {n : Nat} {s₀ : Shared} {fs : List Frame} {s : Shared} {env : Env} {target : Expr} {it : Value} {body orelse : List Stmt}
    (h : wpAny (model prog w) (A.over (.forLoop target it body orelse env) fs) (pyNext it) (fun r s1 => match r with
        | none => Seg (model prog w) A R Y n s₀ (.forLoop target it body orelse env) (.pure (.again (.block orelse env))) fs s1
        | some v => wpAny (model prog w) (A.over (.forLoop target it body orelse env) fs) (letOwnedTupleGo target it v) (fun _ s2 => wpAny (model prog w) (A.over (.forLoop target it body orelse env) fs) (assign target env v) (fun _ s3 =>
            Seg (model prog w) A R Y n s₀ (.forLoop target it body orelse env) ((execs body env).wrap (fun f => match f with
              | .next | .cont => .pure (.again (.forLoop target it body orelse env))
              | .brk => .pure (.done .next)
              | .ret v => .pure (.done (.ret v))) (notedW env) id id) fs s3)
              (fun x s' => Seg (model prog w) A R Y n s₀ (.forLoop target it body orelse env) (notedW env x) fs s') s2)
              (fun x s' => Seg (model prog w) A R Y n s₀ (.forLoop target it body orelse env) (notedW env x) fs s') s1)
      (fun x s' => Seg (model prog w) A R Y n s₀ (.forLoop target it body orelse env) (notedW env x) fs s') s) :
    Seg (model prog w) A R Y n s₀ (.forLoop target it body orelse env) ((model prog w).den (.forLoop target it body orelse env)) fs s := by
  show Seg _ A R Y n s₀ _ ((forTurn target it body orelse env).onRaise (fun x => do noteFrame x env; theTreesLotGoes x)) fs s
  have eH : (fun e : Value => ((do noteFrame e env; theTreesLotGoes e : Sem Unit).bind fun _ => (.raise e : Sem PySem.Fin))) = notedW env := by
    funext e
    rw [Sem.bind_eq_wrap]
  rw [Sem.onRaise_eq_wrap, eH]
  unfold forTurn
  refine seg_bind_wrap (wpAny_standAt ?_)
  refine seg_bind_wrap (wpAny_onRaise (wpAny_mono h (fun r s1 h1 => ?_) fun x s' hx => wpAny_standAt hx))
  cases r with
  | none => exact h1
  | some v =>
    refine seg_bind_wrap (wpAny_mono h1 (fun _ s2 h2 => ?_) fun x s' hx => hx)
    refine seg_bind_wrap (wpAny_mono h2 (fun _ s3 h3 => ?_) fun x s' hx => hx)
    rw [Sem.bind_eq_wrap', Sem.wrap_wrap]
    rw [Sem.wrap_congr (execs body env) _ _ (K' := fun f => match f with
              | .next | .cont => .pure (.again (.forLoop target it body orelse env))
              | .brk => .pure (.done .next)
              | .ret v => .pure (.done (.ret v))) (H' := notedW env) (fun f => by cases f <;> rfl) (fun e => by rfl)]
    exact h3
def tForC (wi : TI) (g : TG) (tb : TGc) : TGc := fun D ys σ H => wi σ H fun J H1 => ∃ W : Nat → Nat → List V → L2.St → Hp → Prop, (∃ m, W 0 m ys σ H1) ∧ ∀ i m ys σ H, W i m ys σ H →
  (J.stop i H ∧ D ys σ H) ∨ (J.go i H ∧ ∃ N : List V → L2.St → Hp → Prop, (∀ ys' σ' H', N ys' σ' H' → ∃ m', m' < m ∧ W (i + 1) m' ys' σ' H') ∧ ∀ x H', J.yld i H x H' → g x σ H' fun σ2 H2 => tb N ys σ2 H2)
theorem GIC.pinned {S : Addr} {co : List Addr} {ip pl : List (Addr × Obj)} {ys : List V} {σ : L2.St} {H : Hp} {s₀ s : Shared} (h : GIC X S co (ip ++ pl) ys σ H s₀ s) : GIC X S co ip ys σ H s₀ s := by
  obtain ⟨acc, c, cps, hc, r, I⟩ := h
  exact ⟨acc, c, cps, hc, r, I.pins_of fun p hp => I.pin p (List.mem_append_right _ (by
    rcases List.mem_cons.mp hp with e | e
    · rw [e]; exact List.mem_cons_self
    · refine List.mem_cons_of_mem _ ?_
      rcases List.mem_append.mp e with e | e
      · exact List.mem_append_left _ e
      · exact List.mem_append_right _ (List.mem_append_left _ e)))⟩
theorem gsc_for {tg iter : Expr} {body : List Stmt} {wi : TI} {g : TG} {tb : TGc} {pos : Pos} (hp : PassesOwn (model X.prog X.w) X.A X.env X.xe) (hc : X.calm = true) (hi : PI X tg iter wi) (hg : PG X tg g) (hb : GSsC X body tb)
    (hs : ∀ x, foldedSetIterable iter X.env x = pure x := by intro _; rfl) : GSC X (.For tg iter body [] pos) (tForC wi g tb) := by
  refine ⟨fun A S co ip R n ys s₀ c fs K J gd lv s σ H D g0 hn k hI ht => ?_⟩
  rw [exec_For]
  refine seg_bind_wrap (wpAny_standAt ?_)
  obtain ⟨acc, cc, cps, hcp, r, I⟩ := hI
  refine seg_bind_wrap ?_
  rw [g0.over]
  refine wpAny_mono (hi.run _ s σ H _ I ht) (fun v s1 h1 => ?_) fun x s' hx => k.exc n s₀ x s' hx
  refine seg_bind_wrap (wpAny_of_eq (hs v) ?_)
  refine seg_bind_wrap (wpAny_standAt ?_)
  refine seg_bind_wrap (wpAny_holding ?_)
  rw [g0.over]
  refine wpAny_mono h1 (fun itv s2 h2 => ?_) fun x s' hx => k.exc n s₀ x s' hx
  obtain ⟨it, fp, tn, JJ, H2, e, I2, T, st2, f2, W, ⟨m0, w0⟩, turn⟩ := h2
  subst e
  -- the iterator's objects are apart
  have fS : ∀ b ∈ fp, b ∉ S :: co ∧ (∀ p ∈ ip, p.1 ≠ b) ∧ ∀ p ∈ X.pn, p.1 ≠ b := fun b hb => by
    obtain ⟨_, _, _, _, _, f6⟩ := f2 b hb
    refine ⟨fun hm => ?_, fun p hp => f6 p (List.mem_append_right _ (List.mem_cons_of_mem _ (List.mem_append_right _ hp))), fun p hp => f6 p (List.mem_append_left _ hp)⟩
    rcases List.mem_cons.mp hm with e | e
    · exact f6 (S, lstObj acc cc) (List.mem_append_right _ List.mem_cons_self) e.symm
    · rw [← hcp.1] at e
      obtain ⟨p, hp, e2⟩ := List.mem_map.mp e
      exact f6 p (List.mem_append_right _ (List.mem_cons_of_mem _ (List.mem_append_left _ hp))) e2
  have stat : ∀ {acc : Array Value} {cc : Nat} {cps : List (Addr × Obj)} {H' : Hp}, cps.map (·.1) = co → (∀ b ∈ fp, H' b = none) → ∀ b ∈ fp, FpOk X ((S, lstObj acc cc) :: (cps ++ ip)) H' b := fun {acc cc cps H'} h1 h2 b hb => by
    obtain ⟨q1, q2, q3⟩ := fS b hb
    obtain ⟨_, f2', f3, f4, f5, _⟩ := f2 b hb
    refine ⟨h2 b hb, f2', f3, f4, f5, fun p hp e => ?_⟩
    rcases List.mem_append.mp hp with z | z
    · exact q3 p z e
    · rcases List.mem_cons.mp z with z | z
      · rw [z] at e
        exact q1 (by rw [← e]; exact List.mem_cons_self)
      · rcases List.mem_append.mp z with z | z
        · exact q1 (List.mem_cons_of_mem _ (by rw [← h1, ← e]; exact List.mem_map_of_mem z))
        · exact q2 p z e
  refine seg_call fun p => ?_
  have gl := fun (kk : Result → Sem PySem.Fin) => gcc_loop (k := kk) (c' := .forLoop tg (.ref it) body [] X.env) (l := lv []) (kp := []) (p := p) g0 rfl rfl
  have loop : ∀ (m i n : Nat) (ys : List V) (s₀ s : Shared) (σ : L2.St) (H : Hp), n + ys.length = sizeLine → W i m ys σ H → GIC X S co ip ys σ H s₀ s → tn i s.heap → (∀ b ∈ fp, H b = none) →
      Seg (model X.prog X.w) A R (GYC X S co) n s₀ (.forLoop tg (.ref it) body [] X.env) ((model X.prog X.w).den (.forLoop tg (.ref it) body [] X.env))
        (.ret (fun r => ((match r with | .ok f => (.pure f : Sem Flow) | .error e => .raise e).onRaise (cameBack X.env)).wrap K J gd lv) none (gd false) (lv []) c p [] :: fs) s := by
    intro m
    induction m using Nat.strongRecOn with
    | ind m ih =>
      intro i n ys s₀ s σ H hn w hI st nf
      have ee : ∀ (n : Nat) (s₀ : Shared) (x : Value) (s' : Shared), X.xe x s' → Seg (model X.prog X.w) A R (GYC X S co) n s₀ (.forLoop tg (.ref it) body [] X.env) (notedW X.env x)
          (.ret (fun r => ((match r with | .ok f => (.pure f : Sem Flow) | .error e => .raise e).onRaise (cameBack X.env)).wrap K J gd lv) none (gd false) (lv []) c p [] :: fs) s' := fun n s₀ x s' hx => by
        refine seg_wrap ?_
        rw [(gl _).over]
        refine wpAny_bind (wpAny_mono (hp x s' hx) (fun _ s'' hcb => wpAny_theTreesLotGoes ?_) fun y s'' hcb => ?_)
        · exact seg_leaf (.error x) (seg_cameC g0 k hcb)
        · exact seg_leaf (.error y) (seg_cameC g0 k hcb)
      obtain ⟨acc, cc, cps, hcp, r, I⟩ := hI
      refine seg_forLoop ?_
      rw [(gl _).over]
      rcases turn i m ys σ H w with ⟨stop, qn⟩ | ⟨go, N, hN, step⟩
      · refine wpAny_mono (T.done X rfl rfl rfl hc i _ s σ H X.xe I (stat hcp.1 nf) st stop) (fun r0 s4 ⟨hr, I4⟩ => ?_) fun x s' hx => ee n s₀ x s' hx
        subst hr
        refine seg_again rfl ?_
        show Seg _ _ _ _ _ _ _ (leafOf (.ok .next)) _ _
        exact seg_leaf (.ok .next) (k.ok n ys s₀ s4 σ H hn ⟨acc, cc, cps, hcp, r, I4⟩ qn)
      · refine wpAny_mono (T.item X rfl rfl rfl hc i _ s σ H X.xe I (stat hcp.1 nf) st go) (fun r0 s4 ⟨u, hr, h4⟩ => ?_) fun x s' hx => ee n s₀ x s' hx
        subst hr
        refine wpAny_mono h4 (fun _ s5 ⟨x, H5, I5, r5, y5, st5, fr5⟩ => ?_) fun x s' hx => ee n s₀ x s' hx
        have I5' := I5.pinned (stat hcp.1 fr5) (T.obj _ _ st5)
        refine wpAny_mono (hg.run _ s5 σ H5 x u _ I5' r5 (step x H5 y5)) (fun _ s6 ⟨σ6, H6, I6, q6⟩ => ?_) fun x s' hx => ee n s₀ x s' hx
        have I6' : Inv X ((S, lstObj acc cc) :: (cps ++ (ip ++ pinsAt fp s5.heap))) σ6 H6 s6 := by
          have z := I6
          rw [List.cons_append, List.append_assoc] at z
          exact z
        have pinMem : ∀ p ∈ pinsAt fp s5.heap, p.1 ∈ fp := fun p hp => by
          unfold pinsAt at hp
          obtain ⟨b, hb, e⟩ := List.mem_filterMap.mp hp
          cases q : s5.heap.get? b with
          | none => rw [q] at e; cases e
          | some o => rw [q] at e; cases e; exact hb
        refine hb.run A S co (ip ++ pinsAt fp s5.heap) R n ys s₀ _ _ _ _ id id s6 σ6 H6 N ⟨g0.pn, fun p hp => ?_, g0.apart, (gl _).over, (gl _).split, (gl _).guard, rfl⟩ hn ⟨fun n' ys' s₀' s7 σ7 H7 hn' I7 n7 => ?_, fun n' s₀' x s3 hx => ee n' s₀' x s3 hx⟩ ⟨acc, cc, cps, hcp, r, I6'⟩ q6
        · rcases List.mem_append.mp hp with z | z
          · exact g0.ip p z
          · exact (fS p.1 (pinMem p z)).1
        · obtain ⟨m', hm, w7⟩ := hN ys' σ7 H7 n7
          have tk : ∀ b ∈ fp, ∀ o, s5.heap.get? b = some o → s7.heap.get? b = some o ∧ H7 b = none := fun b hb o e => by
            obtain ⟨acc7, cc7, cps7, _, _, J7⟩ := I7
            have z := J7.pin (b, o) (List.mem_append_right _ (List.mem_cons_of_mem _ (List.mem_append_right _ (List.mem_append_right _ (mem_pinsAt hb e)))))
            exact ⟨z.1, z.2.1⟩
          refine seg_again rfl (ih m' hm (i + 1) n' ys' s₀' s7 σ7 H7 hn' w7 I7.pinned (T.keep _ _ _ st5 fun b hb o e => (tk b hb o e).1) fun b hb => ?_)
          obtain ⟨o, e, _⟩ := T.obj _ _ st5 b hb
          exact (tk b hb o e).2
  exact loop m0 0 n ys s₀ s2 σ H2 hn w0 ⟨acc, cc, cps, hcp, r, I2⟩ st2 fun b hb => (f2 b hb).1
end
end DL
/-! D layer, part 65: generators over data. -/
namespace DL
open PySem PySem.Spec PyProof.Rows L2 GenW
/-- what a statement of a generator does: what is out so far, the names, the store -/
abbrev MGn := (List DV → DEnv → Store → Prop) → List DV → DEnv → Store → Prop
def tGDc (K : PySem.W.Frag) (m : MGn) : TGc := fun D ys σ H => ∃ Γ S δ dys Dd, Cf K Γ S H δ σ ∧ RVs K Γ dys ys ∧ m Dd dys δ S ∧ ∀ Γ' S' H' δ' σ' dys' ys', Ext Γ Γ' → Cf K Γ' S' H' δ' σ' → RVs K Γ' dys' ys' → Dd dys' δ' S' → D ys' σ' H'
def mYieldG (me : ME) : MGn := fun D dys δ S => dys.length < 16777216 ∧ me δ S (fun d S1 => D (dys ++ [d]) δ S1) noE
def forGoG (g : MG) (tb : MGn) (D : List DV → DEnv → Store → Prop) : List DV → List DV → DEnv → Store → Prop
  | [], ys, δ, S => D ys δ S
  | x :: xs, ys, δ, S => g x δ S fun δ1 S1 => tb (fun ys' δ' S' => forGoG g tb D xs ys' δ' S') ys δ1 S1
def mForG (it : MI) (g : MG) (tb : MGn) : MGn := fun D ys δ S => it δ S (fun xs S1 => forGoG g tb D xs ys δ S1) noE
theorem GSC.imp {X : Cx} {st : Stmt} {t t' : TGc} (h : GSC X st t) (i : ∀ D ys σ H, t' D ys σ H → t D ys σ H) : GSC X st t' :=
  ⟨fun A S co ip R n ys s₀ c fs K J gd lv s σ H D g hn k hI ht => h.run A S co ip R n ys s₀ c fs K J gd lv s σ H D g hn k hI (i D ys σ H ht)⟩
section
variable {X : Cx}
theorem dgs_yield {e : Expr} {yp pos : Pos} {me : ME} (he : DE X noW e me) (hco : X.env.scope.isCoroutine = false := by rfl) (hi : interactive X.env = false := by rfl) : GSC X (.Expr (.Yield (some e) yp) pos) (tGDc X.K (mYieldG me)) :=
  GSC.imp (gsc_yield he hco hi) fun D ys σ H ⟨Γ, S, δ, dys, Dd, c, r, ⟨hl, hm⟩, kd⟩ => by
    refine ⟨by rw [← r.length, sizeLine_eq]; exact hl, Γ, S, δ, _, _, c, hm, fun Γ1 S1 H1 d1 v1 e1 R1 r1 q1 => ?_, fun _ _ _ _ _ _ _ _ _ z => False.elim z⟩
    exact kd Γ1 S1 H1 δ σ _ _ e1 (c.mk' R1 e1) ((RVs.mono e1 _ _ r).snoc r1) q1
theorem dgs_for {tg iter : Expr} {b : List Stmt} {mi : MI} {g : MG} {mb : MGn} {pos : Pos} (hp : PassesOwn (model X.prog X.w) X.A X.env X.xe) (hc : X.calm = true) (hi : DI X noW tg iter mi) (hg : DG X tg g) (hb : GSsC X b (tGDc X.K mb)) (hs : ∀ x, foldedSetIterable iter X.env x = pure x := by intro _; rfl) :
    GSC X (.For tg iter b [] pos) (tGDc X.K (mForG mi g mb)) :=
  GSC.imp (gsc_for hp hc hi hg hb hs) fun D ys σ H ⟨Γ, S, δ, dys, Dd, c, r, m, kd⟩ => by
    refine ⟨Γ, S, δ, _, _, c, m, fun Γ1 S1 H1 xs J e1 R1 it q1 => ?_, fun _ _ _ _ _ _ _ _ _ z => False.elim z⟩
    refine ⟨fun i n ys' σ' H' => n = xs.length - i ∧ ∃ Γ' S' δ' dys', Ext Γ1 Γ' ∧ Cf X.K Γ' S' H' δ' σ' ∧ RVs X.K Γ' dys' ys' ∧ forGoG g mb Dd (xs.drop i) dys' δ' S', ⟨xs.length - 0, rfl, Γ1, S1, δ, dys, Ext.refl Γ1, c.mk' R1 e1, RVs.mono e1 _ _ r, q1⟩, ?_⟩
    rintro i n ys2 σ2 H2 ⟨rfl, Γ2, S2, δ2, dys2, e2, c2, r2, w2⟩
    obtain ⟨it1, it2⟩ := it Γ2 S2 H2 ⟨e2.pre, e2.sub, rfl, rfl⟩ c2.rs i
    by_cases hi : i < xs.length
    · have ed : xs.drop i = xs[i] :: xs.drop (i + 1) := List.drop_eq_getElem_cons hi
      rw [ed] at w2
      obtain ⟨go, yl⟩ := it2 xs[i] (by simp [hi])
      refine .inr ⟨go, fun ys' σ' H' => ∃ Γ' S' δ' dys', Ext Γ1 Γ' ∧ Cf X.K Γ' S' H' δ' σ' ∧ RVs X.K Γ' dys' ys' ∧ forGoG g mb Dd (xs.drop (i + 1)) dys' δ' S', fun ys' σ' H' h => ⟨xs.length - (i + 1), by omega, rfl, h⟩, fun v H3 y => ?_⟩
      obtain ⟨Γ3, e3, R3, r3⟩ := yl v H3 y
      refine ⟨Γ3, S2, δ2, xs[i], _, c2.mk' R3 e3, r3, w2, fun Γ4 S4 H4 δ4 σ4 e4 c4 q4 => ?_⟩
      exact ⟨Γ4, S4, δ4, dys2, _, c4, RVs.mono (e3.trans e4) _ _ r2, q4, fun Γ' S' H' δ' σ' dys' ys' e5 c5 r5 w5 => ⟨Γ', S', δ', dys', ((e2.trans e3).trans e4).trans e5, c5, r5, w5⟩⟩
    · have hd : xs.drop i = [] := List.drop_eq_nil_of_le (by omega)
      rw [hd] at w2
      exact .inl ⟨it1 (by omega), kd Γ2 S2 H2 δ2 σ2 dys2 ys2 (e1.trans e2) c2 r2 w2⟩
theorem dgb_one {st : Stmt} {m : MGn} (h : GSC X st (tGDc X.K m)) : GSsC X [st] (tGDc X.K m) := gsc_one h
end
/-! ### a generator def -/
abbrev SpH := List V → Hp → (List V → Hp → Prop) → Prop
def REndC (P : Program) (w : World) (outer : List Env) (H : Hp) (s : Shared) (S : Addr) (co : List Addr) (Q : List V → Hp → Prop) : GenEnd := fun n s₀ r s1 =>
  (r = .ok (.ret .none) ∨ r = .ok .next) ∧ ∃ H' ys acc c, s1.os = s.os ∧ AllBare s1.gens ∧ Un (frs outer) [] H H' s.heap s1.heap ∧ HOk P w H' s1.heap ∧ (∀ b ∈ S :: co, H' b = none) ∧ (∀ b ∈ co, ∃ o, s1.heap.get? b = some o ∧ s₀.heap.get? b = some o) ∧ s1.heap.get? S = some (lstObj acc c) ∧ Vals ys acc.toList ∧ ys.length ≤ sizeLine ∧ Q ys H'
def YItemC (P : Program) (w : World) (outer : List Env) (H : Hp) (s : Shared) (S : Addr) (co : List Addr) (a : Addr) (g : Nat) : Protocol := fun n s₀ v s1 kap =>
  s1.os = s.os ∧ AllBare s1.gens ∧ s1.heap.NoLimit ∧ s1.heap.IsGen a g ∧ (∃ H' ys acc c x, Un (frs outer) [] H H' s.heap s1.heap ∧ HOk P w H' s1.heap ∧ (∀ b ∈ S :: co, H' b = none) ∧ (∀ b ∈ co, ∃ o, s1.heap.get? b = some o ∧ s₀.heap.get? b = some o) ∧ s1.heap.get? S = some (lstObj acc c) ∧ Vals ys acc.toList ∧ n + 1 + ys.length = sizeLine ∧ RelV x v) ∧
    ∀ s', SlpC co S v s1 s' → kap (.send .none) s'
def GMadeC (P : Program) (w : World) (k : Nat) (outer : List Env) (H : Hp) (s : Shared) (Q : List V → Hp → Prop) (u : Value) (s' : Shared) : Prop :=
  ∃ (a : Addr) (g : Nat) (c : Code), u = .ref a ∧ s.heap.objs.size ≤ a ∧ a < s'.heap.objs.size ∧ s'.heap.IsGen a g ∧ s'.gens[g]? = some (.fresh c) ∧ s'.os = s.os ∧ AllBare s'.gens ∧ s'.heap.NoLimit ∧ (∀ b o, s.heap.get? b = some o → s'.heap.get? b = some o) ∧
    ∀ (A : Around) (S : Addr) (co : List Addr) (s2 : Shared), Room k A → A.frames = some outer → (∀ b ∈ S :: co, s'.heap.objs.size ≤ b) → (∀ b o, s'.heap.get? b = some o → s2.heap.get? b = some o) → (∃ c, s2.heap.get? S = some (lstObj #[] c)) → (∀ b ∈ co, ∃ o, s2.heap.get? b = some o ∧ ∀ v, o.data ≠ .cell v) → s2.os = s.os → AllBare s2.gens →
      Seg (model P w) A (REndC P w outer H s S co Q) (YItemC P w outer H s S co a g) sizeLine s2 c ((model P w).den c) [] s2
structure GFnC (P : Program) (w : World) (K : PySem.W.Frag) (mg : Str → Option Value) (base : Heap) (k : Nat) (f : Addr) (fd : FuncData) (ps : List Str) (sp : SpH) : Prop where
  len : ∀ vs H Q, sp vs H Q → vs.length = ps.length
  run : ∀ (A : Around) (outer : List Env) (s : Shared) (H : Hp) (args : Args) (us : List Value) (vs : List V) (Q : List V → Hp → Prop), Room k A → Env0 P w K mg base A outer s H → BindsTo s fd args (ps.zip us) → Vals vs us → sp vs H Q →
    codeAny (model P w) A (.call (.ref f) args) (fun r s' => match r with | .ok (.ret u) => GMadeC P w k outer H s Q u s' | _ => False) s
abbrev noXK : XK := fun _ _ _ => False
theorem gfnC_of {P : Program} {w : World} {K : PySem.W.Frag} {mg : Str → Option Value} {base : Heap} {k : Nat} {f : Addr} {name qual : Str} {params : Arguments} {body : List Stmt} {scope : Scope} {dV kV doc pm cdv ct oc : Value} {an od : Option Addr}
    {osl : Array (Option Value)} {N ps : List Str} {sp : SpH} (lk : K.lookup f = some ⟨oc, od, .func (PySem.W.fnOf name qual params body scope dV kV doc pm an cdv ct), osl⟩) (hcd : PySem.W.codeIn K cdv qual = true) (S : GScope N ps scope)
    (len : ∀ vs H Q, sp vs H Q → vs.length = ps.length)
    (hbody : ∀ (A : Around) (outer : List Env) (s : Shared) (H : Hp) (vs : List V) (Q : List V → Hp → Prop) (pn : List (Addr × Obj)), Room k (A.deeper (envOfC qual scope s.heap.objs.size f cdv)) → sp vs H Q →
      ∃ t, GSsC (gcxOf P w K mg base N qual scope f cdv A outer s H noXK pn) body t ∧ t (fun ys _ H' => Q ys H') [] (L2.start N vs) H) :
    GFnC P w K mg base (k + 1) f (PySem.W.fnOf name qual params body scope dV kV doc pm an cdv ct) ps sp := by
  refine ⟨len, fun A outer s H args us vs Q hr e0 hb r hsp => ?_⟩
  have hl := len _ _ _ hsp
  have inK : K.In s.heap := e0.mod.kin.keeps fun b o e => (e0.bs b o e).1
  have noL : s.heap.NoLimit := e0.mod.nolimit.keeps fun b o e => (e0.bs b o e).1
  have kinds : ∀ y ∈ ps.zip us, scope.names.lookup y.1 = some .local ∨ (scope.names.lookup y.1 = some .cell ∧ ((cellsFrom (s.heap.objs.size + 1) scope.names []).lookup y.1).isSome = true) := fun ⟨n, v⟩ hy =>
    (S.par n (List.of_mem_zip hy).1).elim (fun q => .inl q) fun q => .inr ⟨q, PySem.W.cellsFrom_some _ _ _ (.inl q)⟩
  refine codeAny_call_generator hr.depth (inK _ _ lk) rfl S.co S.gen rfl (PySem.W.codeRec_of inK hcd) (hb _ _ _ _ ?_)
  refine wpAny_newFunctionEnv_cells S.kind kinds fun env he s1 x => ?_
  subst he
  have lim1 : s1.heap.NoLimit := noL.keeps x.toInCall.keep
  refine ⟨lim1, ?_⟩
  obtain ⟨h1, tk, es1, hk1⟩ := x.done
  have os1 : s1.os = s.os := by rw [es1]
  have gen1 : s1.gens = s.gens := by rw [es1]
  have lt1 : s.heap.objs.size < s1.heap.objs.size := x.toInCall.ns.lt
  have sz1 : s.heap.objs.size ≤ s1.heap.objs.size := Nat.le_of_lt lt1
  have kp1 : ∀ b o, s.heap.get? b = some o → s1.heap.get? b = some o := x.toInCall.keep
  have main : ∀ (go : Obj) (nm qn : Value) (tk2 : Nat), go.cls = .type "generator" → go.data = .fields #[.int s1.gens.size 0, nm, qn] → go.slots = #[] → (∀ h : Heap, (h.push go).get? h.objs.size = some go) →
      GMadeC P w (k + 1) outer H s Q (.ref s1.heap.objs.size) { s1 with gens := s1.gens.push (.fresh (.func body (envOfC qual scope s.heap.objs.size f cdv))), toks := tk2, heap := s1.heap.push go } := by
    intro go nm qn tk2 hgc hgd0 hgs hgp
    have hgen : ∀ h : Heap, h.get? s1.heap.objs.size = some go → h.IsGen s1.heap.objs.size s1.gens.size := fun h e => ⟨go, nm, qn, e, hgc, hgd0, hgs⟩
    have hpushed : (s1.heap.push go).get? s1.heap.objs.size = some go := hgp _
    refine ⟨s1.heap.objs.size, s1.gens.size, _, rfl, sz1, ?_, hgen _ hpushed, Array.getElem?_push_size .., os1, ?_, lim1.keeps fun b o e => Heap.get?_push_of_some _ e, fun b o e => Heap.get?_push_of_some _ (kp1 b o e), ?_⟩
    · show _ < (s1.heap.push _).objs.size
      rw [Heap.size_push]; exact Nat.lt_succ_self _
    · exact AllBare.push (by rw [gen1]; exact e0.bare) rfl
    intro Aw Sx co s2 hrw hfr hSx hk2 hSo hCo hos hba
    have e0w : Env0 P w K mg base Aw outer s H := ⟨hfr, e0.mod, e0.bs, e0.bsz, e0.funs, e0.frf, e0.hok, e0.bare⟩
    obtain ⟨t, ht, hq⟩ := hbody Aw outer s H vs Q [(s1.heap.objs.size, go)] (hrw.deeper _) hsp
    have I1 : Inv (gcxOf P w K mg base N qual scope f cdv Aw outer s H noXK []) [] (L2.start N vs) H s1 := inv_startG S hrw.hd e0w hl r x
    have kp2 : ∀ b o, s1.heap.get? b = some o → s2.heap.get? b = some o := fun b o e => hk2 b o (Heap.get?_push_of_some _ e)
    have I2 : Inv (gcxOf P w K mg base N qual scope f cdv Aw outer s H noXK []) [] (L2.start N vs) H s2 :=
      I1.call' (ch := []) (hos.trans os1.symm) (Un.kept kp2) (I1.hok.kept kp2) hba fun b z => by simp at z
    have hSz : ∀ b ∈ Sx :: co, s1.heap.objs.size < b := fun b hb => by
      have hSx' : (s1.heap.push go).objs.size ≤ b := hSx b hb
      rw [Heap.size_push] at hSx'
      exact hSx'
    obtain ⟨cS, heS⟩ := hSo
    obtain ⟨cps, hc1, hc2⟩ := coAt_of co s2 hCo
    have hea : s2.heap.get? s1.heap.objs.size = some go := hk2 s1.heap.objs.size go hpushed
    have hgd : ∀ v, go.data ≠ .cell v := fun v q => by rw [hgd0] at q; cases q
    have young : ∀ b, s1.heap.objs.size ≤ b → H b = none ∧ b ≠ s.heap.objs.size ∧ b ∉ frs outer ∧ s.heap.objs.size ≤ b ∧ ∀ y c, (cellsFrom (s.heap.objs.size + 1) scope.names []).lookup y = some c → c ≠ b := fun b hb => by
      refine ⟨I1.hok.fresh hb, Nat.ne_of_gt (Nat.lt_of_lt_of_le lt1 hb), I1.nofs hb, Nat.le_trans sz1 hb, fun y c e z => ?_⟩
      obtain ⟨v, ob, ho, _⟩ := I1.cell y c e
      have := Heap.lt_size ho
      rw [z] at this
      exact absurd (Nat.lt_of_lt_of_le this hb) (Nat.lt_irrefl _)
    have hG : GIC (gcxOf P w K mg base N qual scope f cdv Aw outer s H noXK [(s1.heap.objs.size, go)]) Sx co [] [] (L2.start N vs) H s2 s2 := by
      refine ⟨#[], cS, cps, hc1, .nil, Inv.pinnedG I2 fun p hp => ?_⟩
      rcases List.mem_append.mp hp with z | z
      · rw [List.mem_singleton.mp z]
        obtain ⟨y1, y2, y3, _, _⟩ := young s1.heap.objs.size (Nat.le_refl _)
        exact ⟨hea, y1, y2, y3, hgd⟩
      · rcases List.mem_cons.mp z with z | z
        · rw [z]
          obtain ⟨y1, y2, y3, _, _⟩ := young Sx (Nat.le_of_lt (hSz Sx List.mem_cons_self))
          exact ⟨heS, y1, y2, y3, fun v q => by cases q⟩
        · rw [List.append_nil] at z
          have hm : p.1 ∈ Sx :: co := List.mem_cons_of_mem _ (by rw [← hc1.1]; exact List.mem_map_of_mem z)
          obtain ⟨y1, y2, y3, _, _⟩ := young p.1 (Nat.le_of_lt (hSz p.1 hm))
          exact ⟨hc1.2 p z, y1, y2, y3, hc2 p z⟩
    have hAp : ∀ b ∈ Sx :: co, Apart (gcxOf P w K mg base N qual scope f cdv Aw outer s H noXK [(s1.heap.objs.size, go)]) b := fun b hb => by
      obtain ⟨_, y2, _, y4, y5⟩ := young b (Nat.le_of_lt (hSz b hb))
      exact ⟨y4, y2, y5⟩
    have hpn : ∀ p ∈ [(s1.heap.objs.size, go)], p.1 ∉ Sx :: co := fun p hp hm => by
      rw [List.mem_singleton.mp hp] at hm
      exact Nat.lt_irrefl _ (hSz _ hm)
    have data : ∀ {ip : List (Addr × Obj)} {ys : List V} {s₀ s' : Shared} {σ' : L2.St} {H' : Hp}, GIC (gcxOf P w K mg base N qual scope f cdv Aw outer s H noXK [(s1.heap.objs.size, go)]) Sx co ip ys σ' H' s₀ s' →
        s'.os = s.os ∧ AllBare s'.gens ∧ s'.heap.NoLimit ∧ s'.heap.IsGen s1.heap.objs.size s1.gens.size ∧ ∃ acc c, Un (frs outer) [] H H' s.heap s'.heap ∧ HOk P w H' s'.heap ∧ (∀ b ∈ Sx :: co, H' b = none) ∧ (∀ b ∈ co, ∃ o, s'.heap.get? b = some o ∧ s₀.heap.get? b = some o) ∧ s'.heap.get? Sx = some (lstObj acc c) ∧ Vals ys acc.toList := fun {ip ys s₀ s' σ' H'} hI => by
      obtain ⟨acc, cc, cps', ⟨d1, d2⟩, rr, J⟩ := hI
      have gS := J.pin (Sx, lstObj acc cc) (List.mem_append_right _ List.mem_cons_self)
      have gC : ∀ b ∈ co, ∃ p ∈ cps', p.1 = b := fun b hb => by
        rw [← d1] at hb
        obtain ⟨p, hp, e⟩ := List.mem_map.mp hb
        exact ⟨p, hp, e⟩
      refine ⟨J.os, J.bare, J.nolimit, hgen _ (J.pin (s1.heap.objs.size, go) (List.mem_append_left _ (List.mem_singleton.mpr rfl))).1, acc, cc, J.base, J.hok, fun b hb => ?_, fun b hb => ?_, gS.1, rr⟩
      · rcases List.mem_cons.mp hb with e | e
        · rw [e]; exact gS.2.1
        · obtain ⟨p, hp, e2⟩ := gC b e
          rw [← e2]
          exact (J.pin p (List.mem_append_right _ (List.mem_cons_of_mem _ (List.mem_append_left _ hp)))).2.1
      · obtain ⟨p, hp, e2⟩ := gC b hb
        rw [← e2]
        exact ⟨p.2, (J.pin p (List.mem_append_right _ (List.mem_cons_of_mem _ (List.mem_append_left _ hp)))).1, d2 p hp⟩
    refine seg_func ?_
    refine seg_imp (R := REndC P w outer H s Sx co Q) (Y := GYC (gcxOf P w K mg base N qual scope f cdv Aw outer s H noXK [(s1.heap.objs.size, go)]) Sx co) (fun n s₀ r s1' hR => hR) (fun n s₀ v s1' kap kap' hkk hY => ?_) sizeLine ?_
    · obtain ⟨ys, xx, ip, σ', H', hn, h2, hI, h3⟩ := hY
      obtain ⟨z1, z2, z3, z4, acc, cc, z5, z6, z7, z8, z9, z10⟩ := data hI
      exact ⟨z1, z2, z3, z4, ⟨H', ys, acc, cc, xx, z5, z6, z7, z8, z9, z10, hn, h2⟩, fun s' z => hkk _ _ (h3 s' z)⟩
    · refine ht.run Aw Sx co [] _ sizeLine [] s2 _ [] _ _ id id s2 (L2.start N vs) H _ ⟨hpn, fun p hp => (by simp at hp), hAp, over_func, rfl, rfl, rfl⟩ (Nat.add_zero _) ⟨fun n ys s₀ s' σ' H' hn hI hQ => ?_, fun n s₀ e s' hx => ?_⟩ hG hq
      · obtain ⟨z1, z2, z3, z4, acc, cc, z5, z6, z7, z8, z9, z10⟩ := data hI
        exact seg_end (.ok (.ret .none)) ⟨.inl rfl, H', ys, acc, cc, z1, z2, z5, z6, z7, z8, z9, z10, by omega, hQ⟩
      · refine seg_wrap ?_
        rw [over_func]
        refine wpAny_mono (show wpAny (model P w) (Aw.deeper (envOfC qual scope s.heap.objs.size f cdv)) (leaving (envOfC qual scope s.heap.objs.size f cdv) e) (fun _ s'' => L2.CX P w outer H s noXK e s'' ∧ ∀ p ∈ [(s1.heap.objs.size, go)], s''.heap.get? p.1 = some p.2) (fun _ _ => False) s' from hx) (fun _ s'' q => ?_) fun _ s'' q => q.elim
        obtain ⟨⟨_, _, _, _, _, _, _, _, _, _, _, _, hW⟩, _⟩ := q
        exact hW.elim
  exact main _ _ _ _ rfl rfl rfl fun h => Heap.get?_push_size _ rfl
end DL
/-! D layer, part 66: calls of generator defs; list(g) and [x for x in g]. -/
namespace DL
open PySem PySem.Spec PyProof.Rows L2 GenW
def RFin (P : Program) (w : World) (outer : List Env) (H : Hp) (s : Shared) (S : Addr) (co : List Addr) (Q : List V → Hp → Prop) : Nat → Shared → Shared → Prop := fun n s₀ s1 =>
  ∃ H' ys acc c, s1.os = s.os ∧ AllBare s1.gens ∧ Un (frs outer) [] H H' s.heap s1.heap ∧ HOk P w H' s1.heap ∧ (∀ b ∈ S :: co, H' b = none) ∧ (∀ b ∈ co, ∃ o, s1.heap.get? b = some o ∧ s₀.heap.get? b = some o) ∧ s1.heap.get? S = some (lstObj acc c) ∧ Vals ys acc.toList ∧ ys.length ≤ sizeLine ∧ Q ys H'
abbrev REndF (P : Program) (w : World) (outer : List Env) (H : Hp) (s : Shared) (S : Addr) (co : List Addr) (Q : List V → Hp → Prop) : GenEnd := fun n s₀ r s₁ => ((r = .ok (.ret .none) ∨ r = .ok .next) ∧ RFin P w outer H s S co Q n s₀ s₁) ∨ ∃ e, r = .error e ∧ False
abbrev TGenC := L2.St → Hp → (List V → Hp → Prop) → Prop
/-- an expression whose value is a generator that has not begun -/
structure PGenC (X : Cx) (k : Nat) (e : Expr) (tg : TGenC) : Prop where
  run : ∀ (pins : List (Addr × Obj)) (s : Shared) (σ : L2.St) (H : Hp) (cont : List V → Hp → Prop), Inv X pins σ H s → tg σ H cont →
    wpAny (model X.prog X.w) X.A (eval e X.env) (fun u s' => ∃ H1 sc, Inv X pins σ H1 sc ∧ GMadeC X.prog X.w k X.stack H1 sc cont u s') X.xe s
section
variable {X : Cx} {k : Nat} {f : Addr} {fd : FuncData} {ps : List Str} {sp : SpH} {x : Str} {p pos : Pos} {e : Expr} {es : List Expr} {t : TA}
theorem run_gfnC {pins : List (Addr × Obj)} {σ : L2.St} {H : Hp} {s : Shared} {us : List Value} {vs : List V} {cont : List V → Hp → Prop} {E1 : Value → Shared → Prop} (F : GFnC X.prog X.w X.K X.mg X.base k f fd ps sp) (hr : Room k X.A) (hb : Binds X.K fd ps []) (I : Inv X pins σ H s) (r : Vals vs us) (h : sp vs H cont) :
    wpAny (model X.prog X.w) X.A (call (.ref f) us) (fun u s' => ∃ H1 sc, Inv X pins σ H1 sc ∧ GMadeC X.prog X.w k X.stack H1 sc cont u s') E1 s := by
  have hl : (us ++ []).length = ps.length := by rw [List.append_nil, ← r.length]; exact F.len _ _ _ h
  have hb2 := hb s us I.kIn hl
  rw [List.append_nil] at hb2
  refine wpAny_call (codeAny_mono (F.run X.A X.stack s H ⟨us, []⟩ us vs cont hr I.env0 hb2 r h) fun r' s' hq => ?_)
  match r', hq with
  | .error u, hq => exact False.elim hq
  | .ok (.ret u), hq => exact ⟨H, s, I, hq⟩
  | .ok .next, hq => exact False.elim hq
  | .ok .brk, hq => exact False.elim hq
  | .ok .cont, hq => exact False.elim hq
def tCallC (sp : SpH) (t : TA) : TGenC := fun σ H cont => t σ H fun vs H1 => sp vs H1 cont
theorem pgenC_call (F : GFnC X.prog X.w X.K X.mg X.base k f fd ps sp) (hr : Room k X.A) (hg : Gl X x) (hm : X.mg x = some (.ref f)) (hk : PySem.W.keepIn X.K (.ref f) = true) (hb : Binds X.K fd ps [])
    (ha : PA X (e :: es) t) (hdb : (x == ("__debug__" : Str)) = false := by decide) (he : starEach (e :: es) X.env = (false, eval e X.env) :: starEach es X.env := by rfl) (hpl : (backTo pos (starEach es X.env)).any (·.1) = false := by rfl) :
    PGenC X k (.Call (.Name x p) (e :: es) [] pos) (tCallC sp t) := by
  refine ⟨fun pins s σ H cont I h => ?_⟩
  refine wpAny_Call_Name_kw (ld_glob I hg hm ?_ hdb)
  refine PySem.W.callWith_K (h₀ := X.base) I.ok.mod.kin hk (thn (ha.run pos pins s σ H _ I h) fun us s1 ⟨vs, H1, I1, r, q⟩ => ⟨I1.kIn, ?_⟩) he hpl
  exact run_gfnC F hr hb I1 r q
/-- such a generator is one of the kit's -/
theorem gmade_of {P : Program} {w : World} {outer : List Env} {H : Hp} {s : Shared} {Q : List V → Hp → Prop} {E : XK} {u : Value} {s' : Shared} (h : GMadeC P w k outer H s Q u s') (hf : True) : GMade P w k outer H s [] Q E u s' := by
  obtain ⟨a, g, c, e, h1, h2, h3, h4, h5, h6, h7, h8, go⟩ := h
  refine ⟨a, g, c, e, h1, h2, h3, h4, h5, h6, h7, h8, fun A S s2 hr hf hS hk hl ho hb => ?_⟩
  refine seg_imp (fun n s₀ r s1 hR => ?_) (fun n s₀ v s1 kap kap' hkk hY => ?_) sizeLine (go A S [] s2 hr hf (fun b hb => by rw [List.mem_singleton.mp hb]; exact hS) hk hl (fun b hb => by simp at hb) ho hb)
  · obtain ⟨hr, H', ys, acc, c', q1, q2, q3, q4, q5, _, q6, q7, q8, q9⟩ := hR
    exact .inl ⟨hr, H', ys, acc, c', q1, q2, q3, q4, q5 S List.mem_cons_self, q6, q7, q8, q9⟩
  · obtain ⟨q1, q2, q3, q4, ⟨H', ys, acc, c', x, _, _, _, _, q6, q7, q8, _⟩, q9⟩ := hY
    have e1 := q7.length
    have e2 : acc.toList.length = acc.size := by simp
    exact ⟨q1, q2, q3, q4, ⟨acc, c', q6, by omega⟩, fun s' z => hkk _ _ (q9 s' ⟨z.os, z.bare, fun b o n _ e => z.keep b o n e, z.own, fun c hc => by simp at hc⟩)⟩
/-- list(g) -/
theorem pe_listC {nm : Str} {tg : TGenC} (h : PGenC X k e tg) (hr : Room (k + 3) X.A) (hg : Gl X nm) (hmg : X.mg nm = none) (hv : bootBuiltins nm = some (.type "list")) (hnm : nm ≠ "__name__" := by decide) (hdb : (nm == ("__debug__" : Str)) = false := by decide)
    (he : starEach [e] X.env = (false, eval e X.env) :: starEach [] X.env := by rfl) : PE X (.Call (.Name nm p) [e] [] pos) (tListG tg) := by
  refine pe_listG (k := k) (E := noXK) (tg := tg) ⟨fun pins s σ H cont I hq => thn (h.run pins s σ H cont I hq) fun u s' ⟨H1, sc, I1, hG⟩ => ⟨H1, sc, [], I1, .nil, gmade_of hG trivial⟩⟩ ?_ ?_ hr hg hmg hv hnm hdb he
  · intro pins σ H s e s' I c
    obtain ⟨_, _, _, _, _, _, _, _, _, _, _, _, hW⟩ := c
    exact hW.elim
  · intro cls d H z
    exact z.elim
/-- [x for x in g] -/
theorem pe_lcG {y : Str} {p1 p2 : Pos} {scope : Scope} {own : List (Str × Nat)} {tg : TGenC} (h : PGenC X k e tg) (hr : Room (k + 2) X.A) (ok : BlkOk X.N X.env.scope scope own) (hy : scope.names.lookup y = some .local) (hnc : ∀ h : Heap, pushCells h scope.names = h) (hyd : (y == ("__debug__" : Str)) = false)
    (hs : ∀ x, foldedSetIterable e X.env x = pure x) : PE X (.ListComp (.Name y p1) [⟨.Name y p2, e, [], 0⟩] scope pos) (tListG tg) := by
  refine ⟨fun pins s σ H Q I hq => ?_⟩
  rw [eval_ListComp]
  have hfree : ∀ y ∈ scope.names, y.2 = .free → ∃ c, X.env.cells.lookup y.1 = some c := fun y hy e => by
    rcases ok.free y hy e with k | k
    · exact I.ok.has _ (.inl k)
    · exact I.ok.has _ (.inr k)
  refine wpAny_comprehension_free (use := none) rfl hs (closure_ok hfree) ok.kind (fun y hy e => by rw [ok.uniq y hy, e]) (thn (h.run pins s σ H _ I hq) fun u s1 ⟨H1, sc, I1, hG⟩ => ?_)
  obtain ⟨a, g, c, rfl, ha1, ha2, hg, hgs, hos, hb, hl, hkp, wake⟩ := hG
  refine wpAny_pyIter_gen hg ?_
  refine wpAny_newObj_type (newEnv_comp ?_) (by show 0 ≤ sizeLine; decide)
  generalize hs3 : ({ s1 with heap := s1.heap.push { cls := .type "list", data := .seq ([] : List Value).toArray } } : Shared) = s3
  have h3 : s3.heap = s1.heap.push { cls := .type "list", data := .seq ([] : List Value).toArray } := by rw [← hs3]
  have z3 : s3.heap.objs.size = s1.heap.objs.size + 1 := by rw [h3, Heap.size_push]
  show codeAny _ _ (.compStart (.ListComp (.Name y p1) [⟨.Name y p2, e, [], 0⟩] scope pos) 0 (.ref a) (.ref s1.heap.objs.size) (compEnvC scope (cellsFrom (s3.heap.objs.size + 1) scope.names (cloFrom X.env.cells scope.names [])) s3.heap.objs.size X.env)) (compPost (model X.prog X.w) X.A X.xe none _ (.ref s1.heap.objs.size) s3.heap.objs.size) { s3 with heap := pushCells (s3.heap.push { cls := .type "dict", data := .dict #[] }) scope.names }
  rw [hnc]
  generalize hce : compEnvC scope (cellsFrom (s3.heap.objs.size + 1) scope.names (cloFrom X.env.cells scope.names [])) s3.heap.objs.size X.env = ce
  have cL : ce.locals = s3.heap.objs.size := by subst hce; rfl
  have cS : ce.scope = relS scope X.env.scope := by subst hce; rfl
  have cK : ce.scope.kind = .function := by rw [cS]; exact ok.kind
  have cY : ce.kindOf y = some .local := by
    unfold Env.kindOf
    rw [cS]
    exact lookup_relS_keep (by decide) hy
  have cC : (ce.scope.kind == .class || (ce.scope.kind == .module && ce.locals != ce.globals)) = false := by rw [cK]; rfl
  have kp3 : ∀ b o, s1.heap.get? b = some o → s3.heap.get? b = some o := fun b o e => by rw [h3]; exact Heap.get?_push_of_some _ e
  generalize hs4 : ({ s3 with heap := s3.heap.push { cls := .type "dict", data := .dict #[] } } : Shared) = s4
  have h4 : s4.heap = s3.heap.push { cls := .type "dict", data := .dict #[] } := by rw [← hs4]
  have kp4 : ∀ b o, s3.heap.get? b = some o → s4.heap.get? b = some o := fun b o e => by rw [h4]; exact Heap.get?_push_of_some _ e
  have kp : ∀ b o, s1.heap.get? b = some o → s4.heap.get? b = some o := fun b o e => kp4 b o (kp3 b o e)
  have D4 : s4.heap.get? s1.heap.objs.size = some (lstObj #[] 0) := kp4 _ _ (by rw [h3]; exact Heap.get?_push_size _ rfl)
  have C4 : s4.heap.get? s3.heap.objs.size = some { cls := .type "dict", data := .dict #[] } := by rw [h4]; exact Heap.get?_push_size _ rfl
  have N4 : s4.heap.Ns s3.heap.objs.size fun _ => none := by rw [h4]; exact Heap.Ns.new ..
  have g4 : s4.gens = s1.gens := by rw [← hs4, ← hs3]
  have o4 : s4.os = s1.os := by rw [← hs4, ← hs3]
  have hcl : cStatics < s1.heap.objs.size := let ⟨_, hn, _⟩ := hl; hn.lt
  have hsz0 : sc.heap.objs.size ≤ s1.heap.objs.size := Nat.le_trans ha1 (Nat.le_of_lt ha2)
  have neDa : s1.heap.objs.size ≠ a := Nat.ne_of_gt ha2
  have neCa : s3.heap.objs.size ≠ a := by rw [z3]; exact Nat.ne_of_gt (Nat.lt_succ_of_lt ha2)
  have neDC : s1.heap.objs.size ≠ s3.heap.objs.size := by omega
  -- what the loop knows
  have fin : ∀ (s' s'' : Shared) (H' : Hp) (ys : List V) (acc : Array Value) (cc : Nat) (m : Str → Option Value), s'.os = sc.os → AllBare s'.gens → Un (frs X.stack) [] H1 H' sc.heap s'.heap → HOk X.prog X.w H' s'.heap → (∀ b ∈ s1.heap.objs.size :: [s3.heap.objs.size], H' b = none) → s'.heap.get? s1.heap.objs.size = some (lstObj acc cc) → Vals ys acc.toList → ys.length ≤ sizeLine → s'.heap.Ns s3.heap.objs.size m →
      (∀ p, H' p = none → Q (.ref p) (upd H' p (.lst ys))) → compPost (model X.prog X.w) X.A X.xe none (EP X pins σ Q) (.ref s1.heap.objs.size) s3.heap.objs.size (.ok .next) s' := by
    intro s' s'' H' ys acc cc m q1 q2 q3 q4 q5 q6 q7 q8 q9 q10
    refine ⟨m, q9, fun h'' sb => ?_⟩
    have J : Inv X pins σ (upd H' s1.heap.objs.size (.lst ys)) s' := I1.drained (Nat.le_trans ha1 (Nat.le_of_lt ha2)) q8 q6 q7 ExOk.nil q1 q2 q3 q4 (q5 _ List.mem_cons_self)
    have nC : upd H' s1.heap.objs.size (.lst ys) s3.heap.objs.size = none := by
      rw [upd_ne (Ne.symm neDC)]
      exact q5 _ (List.mem_cons_of_mem _ List.mem_cons_self)
    obtain ⟨f0, f1, f2, f3, f4, f5⟩ := I1.fpOk (b := s3.heap.objs.size) (H' := upd H' s1.heap.objs.size (.lst ys)) (by rw [z3]; exact Nat.le_succ_of_le hsz0) nC
    exact ⟨.ref s1.heap.objs.size, _, J.turned (t' := s'.toks) (fun b o hb e => (sb.2 b hb).trans e) f0 f1 f3 f4 f5, rfl, q10 _ (q5 _ List.mem_cons_self)⟩
  have hdep := hr.dp
  have hun := hr.un
  have loop : ∀ (n : Nat) (s : Shared), (s.heap.IsGen a g ∧ s.heap.NoLimit ∧ (∃ gs, s.gens[g]? = some gs ∧ gs.Goes (model X.prog X.w) X.A.in1 (REndF X.prog X.w X.stack H1 sc s1.heap.objs.size [s3.heap.objs.size] fun out H2 => ∀ p, H2 p = none → Q (.ref p) (upd H2 p (.lst out))) (YItemC X.prog X.w X.stack H1 sc s1.heap.objs.size [s3.heap.objs.size] a g) n (.send .none) (s.setGen g .running)) ∧ ∃ m, s.heap.Ns s3.heap.objs.size m) →
      codeAny (model X.prog X.w) X.A (.compLoop (.ListComp (.Name y p1) [⟨.Name y p2, e, [], 0⟩] scope pos) 0 (.ref a) (.ref s1.heap.objs.size) ce) (compPost (model X.prog X.w) X.A X.xe none (EP X pins σ Q) (.ref s1.heap.objs.size) s3.heap.objs.size) s := by
    intro n s hI
    refine compLoop_any (fun n s => s.heap.IsGen a g ∧ s.heap.NoLimit ∧ (∃ gs, s.gens[g]? = some gs ∧ gs.Goes (model X.prog X.w) X.A.in1 (REndF X.prog X.w X.stack H1 sc s1.heap.objs.size [s3.heap.objs.size] fun out H2 => ∀ p, H2 p = none → Q (.ref p) (upd H2 p (.lst out))) (YItemC X.prog X.w X.stack H1 sc s1.heap.objs.size [s3.heap.objs.size] a g) n (.send .none) (s.setGen g .running)) ∧ ∃ m, s.heap.Ns s3.heap.objs.size m) ?_ n hI
    rintro n s ⟨hg, hl, ⟨gs, hgs, hgo⟩, m, hN⟩
    have hgl : g < s.gens.size := (Array.getElem?_eq_some_iff.mp hgs).1
    refine wpAny_gsz (n := g + 1) hgl (next_genG (A := X.A) (n := n) (gs := gs) (Y := YItemC X.prog X.w X.stack H1 sc s1.heap.objs.size [s3.heap.objs.size] a g) (F := RFin X.prog X.w X.stack H1 sc s1.heap.objs.size [s3.heap.objs.size] fun out H2 => ∀ p, H2 p = none → Q (.ref p) (upd H2 p (.lst out))) (Er := fun _ _ => False) hr.hd hl (show X.A.depth < recursionLimit by omega) hg hgs hgo (fun v s₁ gs' hbare hv => ?_) (fun s₁ hp h' hk => ?_) fun e s₁ he => he.elim)
    · intro hsz
      have hsz1 : g < s₁.gens.size := by
        have q : (s₁.setGen g gs').gens.size = s₁.gens.size := setGen_size _ _ _
        have hsz' : g + 1 ≤ (s₁.setGen g gs').gens.size := hsz
        omega
      obtain ⟨os1, hb1, hl1, hg1, ⟨H', ys, acc, cc, x, un, hok, hn0, hkeep, hS1, hv', hnn, hrv⟩, hk⟩ := hv
      obtain ⟨oC, k1, k2⟩ := hkeep s3.heap.objs.size List.mem_cons_self
      have hN1 : (s₁.setGen g gs').heap.Ns ce.locals m := by
        rw [cL]
        refine hN.at' fun o e => ?_
        rw [show s.heap.get? s3.heap.objs.size = some oC from k2] at e
        cases e
        exact k1
      have hla : acc.size = ys.length := by
        have e1 := hv'.length
        have e2 : acc.toList.length = acc.size := by simp
        omega
      refine wpAny_of_eq (a := ()) rfl ?_
      refine wpAny_assign_Name (wpAny_storeName_local cY hN1 (fun h' hn' sb => ?_) cC)
      rw [cL] at hn' sb
      refine wpAny_tests_nil ?_
      rw [if_pos rfl]
      refine wpAny_Name (wpAny_loadName_local cK cY (v := v) (by rw [cL]; exact hn') (show (if y = y then some v else m y) = some v from if_pos rfl) ?_) hyd
      have hD' : h'.get? s1.heap.objs.size = some (lstObj acc cc) := (sb.2 _ neDC).trans hS1
      refine append_at (hsz := by omega) hD' fun h2 sb2 hD2 => ?_
      have hC2 : h2.Ns s3.heap.objs.size (fun z => if z = y then some v else m z) := hn'.at' fun o e => (sb2.2 _ (Ne.symm neDC)).trans e
      have kp2 : ∀ b o, b ≠ s1.heap.objs.size → b ≠ s3.heap.objs.size → s₁.heap.get? b = some o → h2.get? b = some o := fun b o n1 n2 e => (sb2.2 b n1).trans ((sb.2 b n2).trans e)
      have slp : SlpC [s3.heap.objs.size] s1.heap.objs.size v s₁ (({ s₁.setGen g gs' with heap := h2, toks := (s₁.setGen g gs').toks + 1 } : Shared).setGen g .running) := by
        refine ⟨rfl, allBare_setGen (s := ({ s₁.setGen g gs' with heap := h2, toks := (s₁.setGen g gs').toks + 1 } : Shared)) (allBare_setGen hb1 hbare) rfl, fun b o n1 n2 e => kp2 b o n1 (fun z => n2 (by rw [z]; exact List.mem_cons_self)) e, fun acc' c' e => ?_, fun c hc => ?_⟩
        · rw [hS1] at e
          cases e
          exact ⟨_, hD2⟩
        · rw [List.mem_singleton.mp hc]
          obtain ⟨o, es, ep, ho, hd, _⟩ := hC2
          exact ⟨o, ho, fun v q => by rw [hd] at q; cases q⟩
      have kk := hk _ slp
      cases n with
      | zero => exact kk.elim
      | succ n =>
        refine ⟨n, Nat.lt_succ_self n, ?_, ?_, ⟨gs', setGen_at hsz1, kk⟩, _, hC2⟩
        · obtain ⟨o, nm, qn, ho, r⟩ := hg1
          exact ⟨o, nm, qn, kp2 a o (Ne.symm neDa) (Ne.symm neCa) ho, r⟩
        · obtain ⟨mc, hns, hnn⟩ := hl1
          exact ⟨mc, hns.at' fun o e => kp2 _ o (Nat.ne_of_lt hcl) (Nat.ne_of_lt (by rw [z3]; exact Nat.lt_succ_of_lt hcl)) e, hnn⟩
    · intro hsz
      obtain ⟨H', ys, acc, cc, os1, hb1, un, hok, hn0, hkeep, hS1, hv', hle, hQ⟩ := hp
      obtain ⟨oC, k1, k2⟩ := hkeep s3.heap.objs.size List.mem_cons_self
      refine fin _ s₁ H' ys acc cc m os1 (allBare_setGen hb1 rfl) (un.trans (Un.kept hk)) (hok.kept hk) hn0 (hk _ _ hS1) hv' hle (hN.at' fun o e => ?_) hQ
      rw [show s.heap.get? s3.heap.objs.size = some oC from k2] at e
      cases e
      exact hk _ _ k1
  have start : codeAny (model X.prog X.w) X.A (.compLoop (.ListComp (.Name y p1) [⟨.Name y p2, e, [], 0⟩] scope pos) 0 (.ref a) (.ref s1.heap.objs.size) ce) (compPost (model X.prog X.w) X.A X.xe none (EP X pins σ Q) (.ref s1.heap.objs.size) s3.heap.objs.size) s4 := by
    refine loop sizeLine s4 ⟨hg.keeps kp, hl.keeps kp, ⟨.fresh c, by rw [g4]; exact hgs, rfl, ?_⟩, _, N4⟩
    refine seg_imp (R := REndC X.prog X.w X.stack H1 sc s1.heap.objs.size [s3.heap.objs.size] fun out H2 => ∀ p, H2 p = none → Q (.ref p) (upd H2 p (.lst out))) (fun n s₀ r s1 hR => .inl hR) (fun n s₀ v s1 kap kap' hkk hY => ?_) sizeLine (wake X.A.in1 s1.heap.objs.size [s3.heap.objs.size] (s4.setGen g .running) ⟨hr.hd, ?_, ?_⟩ I1.ok.frames ?_ kp ⟨0, D4⟩ (fun b hb => ?_) (o4.trans hos) (allBare_setGen (s := s4) (by rw [g4]; exact hb) rfl))
    · obtain ⟨q1, q2, q3, q4, q5, q6⟩ := hY
      exact ⟨q1, q2, q3, q4, q5, fun s' z => hkk _ _ (q6 s' z)⟩
    · show X.A.depth + 3 * k + 5 < _
      omega
    · show X.A.units + 1 + 16 * k + 200 < _
      omega
    · intro b hb
      rcases List.mem_cons.mp hb with e | e
      · rw [e]; exact Nat.le_refl _
      · rw [List.mem_singleton.mp e, z3]; exact Nat.le_succ _
    · rw [List.mem_singleton.mp hb]
      exact ⟨_, C4, fun v q => by cases q⟩
  exact codeAny_compStart_list start (wpAny_pyIter_gen (hg.keeps kp) start)
end
end DL
/-! D layer, part 67: generator defs over data, and what is made of their items. -/
namespace DL
open PySem PySem.Spec PyProof.Rows L2 GenW
abbrev GG := List DV → Store → (List DV → Store → Prop) → Prop
def spGD (K : PySem.W.Frag) (n : Nat) (m : GG) : SpH := fun vs H Q => ∃ Γ S ds Qd, ds.length = n ∧ Rs K Γ S H ∧ RVs K Γ ds vs ∧ m ds S Qd ∧ ∀ Γ' S' H' dys ys, Ext Γ Γ' → Rs K Γ' S' H' → RVs K Γ' dys ys → Qd dys S' → Q ys H'
/-- what a generator's body does, n its names -/
def mBodyG (n : Nat) (b : MGn) : GG := fun ds S Q => b (fun ys _ S' => Q ys S') [] (startD n ds) S
structure CalG (P : Program) (w : World) (K : PySem.W.Frag) (mg : Str → Option Value) (base : Heap) (k : Nat) (x : Str) (n : Nat) (m : GG) : Prop where
  ex : ∃ f fd ps, mg x = some (.ref f) ∧ PySem.W.keepIn K (.ref f) = true ∧ Binds K fd ps [] ∧ ps.length = n ∧ GFnC P w K mg base k f fd ps (spGD K n m)
section
variable {P : Program} {w : World} {K : PySem.W.Frag} {mg : Str → Option Value} {base : Heap} {x qual : Str} {params : Arguments} {body : List Stmt} {scope : Scope} {dvs : List V} {kws : List (Str × V)} {f : Addr} {fd : FuncData} {N ps : List Str} {k : Nat}
theorem gfnD_of {b : MGn} (F : FunD K x qual params body scope dvs kws f fd) (sc : GScope N ps scope)
    (hb : ∀ (cdv : Value) (A : Around) (outer : List Env) (s : Shared) (H : Hp) (pn : List (Addr × Obj)), XC (gcxOf P w K mg base N qual scope f cdv A outer s H noXK pn) k false → GSsC (gcxOf P w K mg base N qual scope f cdv A outer s H noXK pn) body (tGDc K b)) :
    GFnC P w K mg base (k + 1) f fd ps (spGD K ps.length (mBodyG N.length b)) := by
  obtain ⟨oc, od, dV, kV, doc, pm, an, cdv, ct, osl, rfl, lk, hcd, _, _⟩ := F.ex
  refine gfnC_of lk hcd sc (fun vs H Q ⟨Γ, S, ds, Qd, hl, R, r, _⟩ => by rw [← hl, r.length]) fun A outer s H vs Q pn hr ⟨Γ, S, ds, Qd, hl, R, r, hm, hq⟩ => ?_
  refine ⟨_, hb cdv A outer s H pn ⟨hr, (fun z => nomatch z), rfl, owns_gcx⟩, Γ, S, startD N.length ds, [], _, start_cf R r, rfl, hm, fun Γ' S' H' δ' σ' dys' ys' e c r' q => hq Γ' S' H' dys' ys' e c.rs r' q⟩
end
/-- list(f(e, ..)), [x for x in f(e, ..)] of a generator def f -/
def mListG (n : Nat) (m : GG) (as : MA) : ME := fun δ S Q E => as δ S (fun ds S1 => ds.length = n ∧ m ds S1 (fun ys S2 => Q (.lst ys) S2)) E
section
variable {X : Cx} {W : WX} {j k n : Nat} {gd : Bool} {m : GG} {x : Str} {p p0 pos pos0 : Pos} {e : Expr} {es : List Expr} {mas : MA}
theorem tg_listG {σ : L2.St} {H : Hp} {Q : VK} (h : tG (RV X.K) X.K W (mListG n m mas) σ H Q) : tListG (tCallC (spGD X.K n m) (tG (RVs X.K) X.K W mas)) σ H Q := by
  obtain ⟨Γ, S, δ, Qd, Ed, c0, hm, kq, ke⟩ := h
  exact ⟨Γ, S, δ, _, Ed, c0, hm, fun Γ1 S1 H1 ds vs e1 R1 r1 q1 => ⟨Γ1, S1, ds, _, q1.1, R1, r1, q1.2, fun Γ2 S2 H2 dys ys e2 R2 r2 q2 p hp => (kq.mono (e1.trans e2)).newL R2 hp r2 q2⟩, ke⟩
theorem d_listG (c : CalG X.prog X.w X.K X.mg X.base k x n m) (hc : XC X j gd) (hk : k + 3 ≤ j) (hg : Gl X x) (hgl : Gl X "list") (hml : X.mg "list" = none) (ha : DA X W (e :: es) mas) (hdb : (x == ("__debug__" : Str)) = false := by decide) (he : starEach (e :: es) X.env = (false, eval e X.env) :: starEach es X.env := by rfl)
    (hpl : (backTo pos (starEach es X.env)).any (·.1) = false := by rfl) (he2 : starEach [.Call (.Name x p) (e :: es) [] pos] X.env = (false, eval (.Call (.Name x p) (e :: es) [] pos) X.env) :: starEach [] X.env := by rfl) :
    DE X W (.Call (.Name "list" p0) [.Call (.Name x p) (e :: es) [] pos] [] pos0) (mListG n m mas) := by
  obtain ⟨f, fd, ps, hm, hkp, hb, hn, F⟩ := c.ex
  exact PE.imp (pe_listC (pgenC_call F (hc.room.mono (by omega)) hg hm hkp hb ha hdb he hpl) (hc.room.mono hk) hgl hml (by decide +kernel) (by decide) (by decide) he2) fun σ H Q h => tg_listG h
theorem d_lcG {y : Str} {p1 p2 : Pos} {scope : Scope} {own : List (Str × Nat)} (c : CalG X.prog X.w X.K X.mg X.base k x n m) (hc : XC X j gd) (hk : k + 3 ≤ j) (hg : Gl X x) (ok : BlkOk X.N X.env.scope scope own) (ha : DA X W (e :: es) mas) (hy : scope.names.lookup y = some .local) (hnc : ∀ h : Heap, pushCells h scope.names = h)
    (hyd : (y == ("__debug__" : Str)) = false := by decide) (hdb : (x == ("__debug__" : Str)) = false := by decide) (he : starEach (e :: es) X.env = (false, eval e X.env) :: starEach es X.env := by rfl)
    (hpl : (backTo pos (starEach es X.env)).any (·.1) = false := by rfl) (hs : ∀ v, foldedSetIterable (.Call (.Name x p) (e :: es) [] pos) X.env v = pure v := by intro _; rfl) :
    DE X W (.ListComp (.Name y p1) [⟨.Name y p2, .Call (.Name x p) (e :: es) [] pos, [], 0⟩] scope pos0) (mListG n m mas) := by
  obtain ⟨f, fd, ps, hm, hkp, hb, hn, F⟩ := c.ex
  exact PE.imp (pe_lcG (own := own) (pgenC_call F (hc.room.mono (by omega)) hg hm hkp hb ha hdb he hpl) (hc.room.mono (by omega)) ok hy hnc hyd hs) fun σ H Q h => tg_listG h
end
end DL
namespace G_k03
open PySem PySem.Spec PyProof.Rows L2 DL LB
abbrev pw : Program := PySem.Challenge.pw_lentbeside_k03_what_is_near
def top (i : Nat) : Stmt := pw.main.body.getD i (.Pass ⟨0, 0, 0, 0⟩)
noncomputable def f_each_near_1 : MGn := shut ((mYieldG (mTup (mCons (mVar 3) (mCons (mVar 5) mNil)))))
theorem f_each_near_1_e : f_each_near_1 = (mYieldG (mTup (mCons (mVar 3) (mCons (mVar 5) mNil)))) := shut_eq _
noncomputable def f_each_near_2 : MGn := shut ((mForG (iS (mVar 4)) (gTg (.nm 5)) f_each_near_1))
theorem f_each_near_2_e : f_each_near_2 = (mForG (iS (mVar 4)) (gTg (.nm 5)) f_each_near_1) := shut_eq _
noncomputable def b_each_near : MGn := shut ((mForG (iE (mCons (mCallF 3 m_rings (mCons (mVar 0) (mCons (mVar 1) (mCons (mVar 2) mNil)))) mNil)) (gTg (.tp [(.nm 3), (.nm 4)])) f_each_near_2))
theorem b_each_near_e : b_each_near = (mForG (iE (mCons (mCallF 3 m_rings (mCons (mVar 0) (mCons (mVar 1) (mCons (mVar 2) mNil)))) mNil)) (gTg (.tp [(.nm 3), (.nm 4)])) f_each_near_2) := shut_eq _
noncomputable def m_each_near : GG := shut (mBodyG 6 b_each_near)
theorem m_each_near_e : m_each_near = mBodyG 6 b_each_near := shut_eq _
noncomputable def r__law_rings_1 : MS := shut ((mExpr (mMeth "list" gAppend (mVar 6) (mCons (mVar 8) mNil))))
theorem r__law_rings_1_e : r__law_rings_1 = (mExpr (mMeth "list" gAppend (mVar 6) (mCons (mVar 8) mNil))) := shut_eq _
noncomputable def f__law_rings_1 : MS := shut ((mIfS (mT (mOp (fInD fun b => !b) (mVar 8) (mVar 3))) (mSeq (mDPut (mVar 3) (mVar 8) (mOp fAdd (mVar 5) (mC (.int 1))))
  r__law_rings_1) mNext))
theorem f__law_rings_1_e : f__law_rings_1 = (mIfS (mT (mOp (fInD fun b => !b) (mVar 8) (mVar 3))) (mSeq (mDPut (mVar 3) (mVar 8) (mOp fAdd (mVar 5) (mC (.int 1))))
  r__law_rings_1) mNext) := shut_eq _
noncomputable def f__law_rings_2 : MS := shut ((mFor (iS (mCallF 2 m__law_around (mCons (mVar 0) (mCons (mVar 7) mNil)))) (gTg (.nm 8)) f__law_rings_1))
theorem f__law_rings_2_e : f__law_rings_2 = (mFor (iS (mCallF 2 m__law_around (mCons (mVar 0) (mCons (mVar 7) mNil)))) (gTg (.nm 8)) f__law_rings_1) := shut_eq _
noncomputable def r__law_rings_2 : MS := shut ((mExpr (mMeth "list" gAppend (mVar 4) (mCons (mCall gSorted (mCons (mFz (mVar 6)) mNil)) mNil))))
theorem r__law_rings_2_e : r__law_rings_2 = (mExpr (mMeth "list" gAppend (mVar 4) (mCons (mCall gSorted (mCons (mFz (mVar 6)) mNil)) mNil))) := shut_eq _
noncomputable def r__law_rings_3 : MS := shut ((mSeq (mFor (iS (mOp fIx (mVar 4) (mUn fNeg (mC (.int 1))))) (gTg (.nm 7)) f__law_rings_2)
  r__law_rings_2))
theorem r__law_rings_3_e : r__law_rings_3 = (mSeq (mFor (iS (mOp fIx (mVar 4) (mUn fNeg (mC (.int 1))))) (gTg (.nm 7)) f__law_rings_2)
  r__law_rings_2) := shut_eq _
noncomputable def f__law_rings_3 : MS := shut ((mSeq (mSet 6 (mLstO mNil))
  r__law_rings_3))
theorem f__law_rings_3_e : f__law_rings_3 = (mSeq (mSet 6 (mLstO mNil))
  r__law_rings_3) := shut_eq _
noncomputable def r__law_rings_4 : MS := shut ((mRet (mFz (mVar 4))))
theorem r__law_rings_4_e : r__law_rings_4 = (mRet (mFz (mVar 4))) := shut_eq _
noncomputable def r__law_rings_5 : MS := shut ((mSeq (mFor (iR1 (mCons (mVar 2) mNil)) (gTg (.nm 5)) f__law_rings_3)
  r__law_rings_4))
theorem r__law_rings_5_e : r__law_rings_5 = (mSeq (mFor (iR1 (mCons (mVar 2) mNil)) (gTg (.nm 5)) f__law_rings_3)
  r__law_rings_4) := shut_eq _
noncomputable def b__law_rings : MS := shut ((mSeq (mPar2 3 4 (mCons (fun δ S Q _ => mDctO1 (mVar 1) (mC (.int 0)) δ S Q noE) (mCons (mLstO (mCons (mLst (mCons (mVar 1) mNil)) mNil)) mNil)))
  r__law_rings_5))
theorem b__law_rings_e : b__law_rings = (mSeq (mPar2 3 4 (mCons (fun δ S Q _ => mDctO1 (mVar 1) (mC (.int 0)) δ S Q noE) (mCons (mLstO (mCons (mLst (mCons (mVar 1) mNil)) mNil)) mNil)))
  r__law_rings_5) := shut_eq _
noncomputable def m__law_rings : GX := shut (mBody 9 b__law_rings)
theorem m__law_rings_e : m__law_rings = mBody 9 b__law_rings := shut_eq _
noncomputable def f_law_1 : MS := shut ((mExpr (mMeth "list" gExtend (mVar 6) (mCons (mLc (iS (mOp fIx (mVar 7) (mVar 8))) (.nm 9) mYes (mTup (mCons (mVar 8) (mCons (mVar 9) mNil))) [9]) mNil))))
theorem f_law_1_e : f_law_1 = (mExpr (mMeth "list" gExtend (mVar 6) (mCons (mLc (iS (mOp fIx (mVar 7) (mVar 8))) (.nm 9) mYes (mTup (mCons (mVar 8) (mCons (mVar 9) mNil))) [9]) mNil))) := shut_eq _
noncomputable def r_law_1 : MS := shut ((mIfS (mT (mOp (fEq fun b => !b) (mCall gRepr (mCons (mListG 3 m_each_near (mCons (mVar 3) (mCons (mVar 5) (mCons (mC (.int 0)) mNil)))) mNil)) (mCall gRepr (mCons (mLst (mCons (mTup (mCons (mC (.int 0)) (mCons (mVar 5) mNil))) mNil)) mNil)))) (mRet (mC (.bl false))) mNext))
theorem r_law_1_e : r_law_1 = (mIfS (mT (mOp (fEq fun b => !b) (mCall gRepr (mCons (mListG 3 m_each_near (mCons (mVar 3) (mCons (mVar 5) (mCons (mC (.int 0)) mNil)))) mNil)) (mCall gRepr (mCons (mLst (mCons (mTup (mCons (mC (.int 0)) (mCons (mVar 5) mNil))) mNil)) mNil)))) (mRet (mC (.bl false))) mNext) := shut_eq _
noncomputable def r_law_2 : MS := shut ((mSeq (mIfS (mT (mOp (fEq fun b => !b) (mCall gRepr (mCons (mListG 3 m_each_near (mCons (mVar 3) (mCons (mVar 5) (mCons (mVar 4) mNil)))) mNil)) (mCall gRepr (mCons (mFz (mVar 6)) mNil)))) (mRet (mC (.bl false))) mNext)
  r_law_1))
theorem r_law_2_e : r_law_2 = (mSeq (mIfS (mT (mOp (fEq fun b => !b) (mCall gRepr (mCons (mListG 3 m_each_near (mCons (mVar 3) (mCons (mVar 5) (mCons (mVar 4) mNil)))) mNil)) (mCall gRepr (mCons (mFz (mVar 6)) mNil)))) (mRet (mC (.bl false))) mNext)
  r_law_1) := shut_eq _
noncomputable def r_law_3 : MS := shut ((mSeq (mFor (iR1 (mCons (mCall gLen (mCons (mVar 7) mNil)) mNil)) (gTg (.nm 8)) f_law_1)
  r_law_2))
theorem r_law_3_e : r_law_3 = (mSeq (mFor (iR1 (mCons (mCall gLen (mCons (mVar 7) mNil)) mNil)) (gTg (.nm 8)) f_law_1)
  r_law_2) := shut_eq _
noncomputable def r_law_4 : MS := shut ((mSeq (mSet 7 (mCallF 3 m__law_rings (mCons (mOp fIx (mVar 3) (mC (.int 1))) (mCons (mVar 5) (mCons (mVar 4) mNil)))))
  r_law_3))
theorem r_law_4_e : r_law_4 = (mSeq (mSet 7 (mCallF 3 m__law_rings (mCons (mOp fIx (mVar 3) (mC (.int 1))) (mCons (mVar 5) (mCons (mVar 4) mNil)))))
  r_law_3) := shut_eq _
noncomputable def r_law_5 : MS := shut ((mSeq (mPar2 5 6 (mCons (mCallF 3 m__law_bag (mCons (mVar 1) (mCons (mOp fIx (mVar 3) (mC (.int 0))) (mCons (mC (.int 6)) mNil)))) (mCons (mLstO mNil) mNil)))
  r_law_4))
theorem r_law_5_e : r_law_5 = (mSeq (mPar2 5 6 (mCons (mCallF 3 m__law_bag (mCons (mVar 1) (mCons (mOp fIx (mVar 3) (mC (.int 0))) (mCons (mC (.int 6)) mNil)))) (mCons (mLstO mNil) mNil)))
  r_law_4) := shut_eq _
noncomputable def r_law_6 : MS := shut ((mSeq (mSet 4 (mCallF 2 m__law_draw (mCons (mVar 1) (mCons (mIf (mT (mOp fLt (mCall gLen (mCons (mOp fIx (mVar 3) (mC (.int 1))) mNil)) (mC (.int 2)))) (mC (.int 7)) (mC (.int 4))) mNil))))
  r_law_5))
theorem r_law_6_e : r_law_6 = (mSeq (mSet 4 (mCallF 2 m__law_draw (mCons (mVar 1) (mCons (mIf (mT (mOp fLt (mCall gLen (mCons (mOp fIx (mVar 3) (mC (.int 1))) mNil)) (mC (.int 2)))) (mC (.int 7)) (mC (.int 4))) mNil))))
  r_law_5) := shut_eq _
noncomputable def f_law_2 : MS := shut ((mSeq (mSet 3 (mCallF 1 m__law_any_market (mCons (mVar 1) mNil)))
  r_law_6))
theorem f_law_2_e : f_law_2 = (mSeq (mSet 3 (mCallF 1 m__law_any_market (mCons (mVar 1) mNil)))
  r_law_6) := shut_eq _
noncomputable def r_law_7 : MS := shut ((mRet (mC (.bl true))))
theorem r_law_7_e : r_law_7 = (mRet (mC (.bl true))) := shut_eq _
noncomputable def r_law_8 : MS := shut ((mSeq (mFor (iR1 (mCons (mC (.int 6)) mNil)) (gTg (.nm 2)) f_law_2)
  r_law_7))
theorem r_law_8_e : r_law_8 = (mSeq (mFor (iR1 (mCons (mC (.int 6)) mNil)) (gTg (.nm 2)) f_law_2)
  r_law_7) := shut_eq _
noncomputable def b_law : MS := shut ((mSeq (mSet 1 (mCallF 1 m__law_deck (mCons (mVar 0) mNil)))
  r_law_8))
theorem b_law_e : b_law = (mSeq (mSet 1 (mCallF 1 m__law_deck (mCons (mVar 0) mNil)))
  r_law_8) := shut_eq _
noncomputable def m_law : GX := shut (mBody 11 b_law)
theorem m_law_e : m_law = mBody 11 b_law := shut_eq _
def N_plus : List Str := ["one", "other", "own", "more"]
def P_plus : List Str := ["one", "other"]
theorem sc_plus : FnScope N_plus P_plus (defScope (top 1)) := ⟨rfl, rfl, rfl, by decide +kernel, rfl, by decide +kernel, by decide +kernel⟩
def N_minus : List Str := ["one", "other", "own", "less"]
def P_minus : List Str := ["one", "other"]
theorem sc_minus : FnScope N_minus P_minus (defScope (top 2)) := ⟨rfl, rfl, rfl, by decide +kernel, rfl, by decide +kernel, by decide +kernel⟩
def N_holds : List Str := ["one", "other", "own", "wanted"]
def P_holds : List Str := ["one", "other"]
theorem sc_holds : FnScope N_holds P_holds (defScope (top 3)) := ⟨rfl, rfl, rfl, by decide +kernel, rfl, by decide +kernel, by decide +kernel⟩
def N_sides : List Str := ["trade", "back"]
def P_sides : List Str := ["trade", "back"]
theorem sc_sides : FnScope N_sides P_sides (defScope (top 5)) := ⟨rfl, rfl, rfl, by decide +kernel, rfl, by decide +kernel, by decide +kernel⟩
def N_moved : List Str := ["trades", "stock", "move", "taken", "added"]
def P_moved : List Str := ["trades", "stock", "move"]
theorem sc_moved : FnScope N_moved P_moved (defScope (top 6)) := ⟨rfl, rfl, rfl, by decide +kernel, rfl, by decide +kernel, by decide +kernel⟩
def N_all_steps : List Str := ["market", "k", "back"]
def P_all_steps : List Str := ["market"]
theorem sc_all_steps : FnScope N_all_steps P_all_steps (defScope (top 7)) := ⟨rfl, rfl, rfl, by decide +kernel, rfl, by decide +kernel, by decide +kernel⟩
def N_rings : List Str := ["market", "stock", "steps", "seen", "found", "turn", "fresh", "old", "step", "later"]
def P_rings : List Str := ["market", "stock", "steps"]
theorem sc_rings : FnScope N_rings P_rings (defScope (top 8)) := ⟨rfl, rfl, rfl, by decide +kernel, rfl, by decide +kernel, by decide +kernel⟩
def N_each_near : List Str := ["market", "stock", "steps", "distance", "ring", "other"]
def P_each_near : List Str := ["market", "stock", "steps"]
theorem sc_each_near : GScope N_each_near P_each_near (defScope (top 9)) := ⟨rfl, rfl, rfl, by decide +kernel, rfl, by decide +kernel, by decide +kernel⟩
def N__law_deck : List Str := ["_law_script", "_law_cells", "_law_cell"]
def P__law_deck : List Str := ["_law_script"]
theorem sc__law_deck : FnScope N__law_deck P__law_deck (defScope (top 11)) := ⟨rfl, rfl, rfl, by decide +kernel, rfl, by decide +kernel, by decide +kernel⟩
def N__law_draw : List Str := ["_law_deck_here", "_law_many", "_law_cells", "_law_turn", "_law_rests", "_law_at", "_law_digit", "_law_mixed", "_law_again"]
def P__law_draw : List Str := ["_law_deck_here", "_law_many"]
theorem sc__law_draw : FnScope N__law_draw P__law_draw (defScope (top 12)) := ⟨rfl, rfl, rfl, by decide +kernel, rfl, by decide +kernel, by decide +kernel⟩
def N__law_bag : List Str := ["_law_deck_here", "_law_goods", "_law_most", "_law_good"]
def P__law_bag : List Str := ["_law_deck_here", "_law_goods", "_law_most"]
theorem sc__law_bag : FnScope N__law_bag P__law_bag (defScope (top 13)) := ⟨rfl, rfl, rfl, by decide +kernel, rfl, by decide +kernel, by decide +kernel⟩
def N__law_side : List Str := ["_law_deck_here", "_law_goods", "_law_most", "_law_row", "_law_k", "_law_at"]
def P__law_side : List Str := ["_law_deck_here", "_law_goods", "_law_most"]
theorem sc__law_side : FnScope N__law_side P__law_side (defScope (top 14)) := ⟨rfl, rfl, rfl, by decide +kernel, rfl, by decide +kernel, by decide +kernel⟩
def N__law_plus : List Str := ["_law_one", "_law_other", "_law_own", "_law_more"]
def P__law_plus : List Str := ["_law_one", "_law_other"]
theorem sc__law_plus : FnScope N__law_plus P__law_plus (defScope (top 18)) := ⟨rfl, rfl, rfl, by decide +kernel, rfl, by decide +kernel, by decide +kernel⟩
def N__law_trade : List Str := ["_law_deck_here", "_law_goods", "_law_most", "_law_at", "_law_many", "_law_beside", "_law_one", "_law_other", "_law_good"]
def P__law_trade : List Str := ["_law_deck_here", "_law_goods", "_law_most"]
theorem sc__law_trade : FnScope N__law_trade P__law_trade (defScope (top 15)) := ⟨rfl, rfl, rfl, by decide +kernel, rfl, by decide +kernel, by decide +kernel⟩
def N__law_market : List Str := ["_law_deck_here", "_law_goods", "_law_trades", "_law_most", "_law_k"]
def P__law_market : List Str := ["_law_deck_here", "_law_goods", "_law_trades", "_law_most"]
theorem sc__law_market : FnScope N__law_market P__law_market (defScope (top 16)) := ⟨rfl, rfl, rfl, by decide +kernel, rfl, by decide +kernel, by decide +kernel⟩
def N__law_any_market : List Str := ["_law_deck_here", "_law_goods"]
def P__law_any_market : List Str := ["_law_deck_here"]
theorem sc__law_any_market : FnScope N__law_any_market P__law_any_market (defScope (top 17)) := ⟨rfl, rfl, rfl, by decide +kernel, rfl, by decide +kernel, by decide +kernel⟩
def N__law_less : List Str := ["_law_one", "_law_other", "_law_own", "_law_more"]
def P__law_less : List Str := ["_law_one", "_law_other"]
theorem sc__law_less : FnScope N__law_less P__law_less (defScope (top 19)) := ⟨rfl, rfl, rfl, by decide +kernel, rfl, by decide +kernel, by decide +kernel⟩
def N__law_holds : List Str := ["_law_one", "_law_other", "_law_own", "_law_more"]
def P__law_holds : List Str := ["_law_one", "_law_other"]
theorem sc__law_holds : FnScope N__law_holds P__law_holds (defScope (top 20)) := ⟨rfl, rfl, rfl, by decide +kernel, rfl, by decide +kernel, by decide +kernel⟩
def N__law_behind : List Str := ["_law_trades", "_law_stock", "_law_k", "_law_is_back", "_law_take", "_law_put"]
def P__law_behind : List Str := ["_law_trades", "_law_stock", "_law_k", "_law_is_back"]
theorem sc__law_behind : FnScope N__law_behind P__law_behind (defScope (top 21)) := ⟨rfl, rfl, rfl, by decide +kernel, rfl, by decide +kernel, by decide +kernel⟩
def N__law_around : List Str := ["_law_trades", "_law_stock", "_law_found", "_law_k", "_law_is_back", "_law_later"]
def P__law_around : List Str := ["_law_trades", "_law_stock"]
theorem sc__law_around : FnScope N__law_around P__law_around (defScope (top 22)) := ⟨rfl, rfl, rfl, by decide +kernel, rfl, by decide +kernel, by decide +kernel⟩
def N__law_rings : List Str := ["_law_trades", "_law_stock", "_law_many", "_law_seen", "_law_layers", "_law_turn", "_law_fresh", "_law_old", "_law_later"]
def P__law_rings : List Str := ["_law_trades", "_law_stock", "_law_many"]
theorem sc__law_rings : FnScope N__law_rings P__law_rings (defScope (top 23)) := ⟨rfl, rfl, rfl, by decide +kernel, rfl, by decide +kernel, by decide +kernel⟩
def N_law : List Str := ["_law_script", "_law_deck_here", "_law_turn", "_law_market_here", "_law_many", "_law_stock", "_law_due", "_law_layers", "_law_distance", "_law_other", "_law_pair"]
def P_law : List Str := ["_law_script"]
theorem sc_law : FnScope N_law P_law (defScope (top 24)) := ⟨rfl, rfl, rfl, by decide +kernel, rfl, by decide +kernel, by decide +kernel⟩
structure Z (K : PySem.W.Frag) (mg : Str → Option Value) : Prop where
  fn_plus : ∃ f fd, mg "plus" = some (.ref f) ∧ FunD K "plus" "plus" (defArgs (top 1)) (defBody (top 1)) (defScope (top 1)) [] [] f fd
  fn_minus : ∃ f fd, mg "minus" = some (.ref f) ∧ FunD K "minus" "minus" (defArgs (top 2)) (defBody (top 2)) (defScope (top 2)) [] [] f fd
  fn_holds : ∃ f fd, mg "holds" = some (.ref f) ∧ FunD K "holds" "holds" (defArgs (top 3)) (defBody (top 3)) (defScope (top 3)) [] [] f fd
  fn_sides : ∃ f fd, mg "sides" = some (.ref f) ∧ FunD K "sides" "sides" (defArgs (top 5)) (defBody (top 5)) (defScope (top 5)) [] [] f fd
  fn_moved : ∃ f fd, mg "moved" = some (.ref f) ∧ FunD K "moved" "moved" (defArgs (top 6)) (defBody (top 6)) (defScope (top 6)) [] [] f fd
  fn_all_steps : ∃ f fd, mg "all_steps" = some (.ref f) ∧ FunD K "all_steps" "all_steps" (defArgs (top 7)) (defBody (top 7)) (defScope (top 7)) [] [] f fd
  fn_rings : ∃ f fd, mg "rings" = some (.ref f) ∧ FunD K "rings" "rings" (defArgs (top 8)) (defBody (top 8)) (defScope (top 8)) [] [] f fd
  fn_each_near : ∃ f fd, mg "each_near" = some (.ref f) ∧ FunD K "each_near" "each_near" (defArgs (top 9)) (defBody (top 9)) (defScope (top 9)) [] [] f fd
  fn__law_deck : ∃ f fd, mg "_law_deck" = some (.ref f) ∧ FunD K "_law_deck" "_law_deck" (defArgs (top 11)) (defBody (top 11)) (defScope (top 11)) [] [] f fd
  fn__law_draw : ∃ f fd, mg "_law_draw" = some (.ref f) ∧ FunD K "_law_draw" "_law_draw" (defArgs (top 12)) (defBody (top 12)) (defScope (top 12)) [] [] f fd
  fn__law_bag : ∃ f fd, mg "_law_bag" = some (.ref f) ∧ FunD K "_law_bag" "_law_bag" (defArgs (top 13)) (defBody (top 13)) (defScope (top 13)) [] [] f fd
  fn__law_side : ∃ f fd, mg "_law_side" = some (.ref f) ∧ FunD K "_law_side" "_law_side" (defArgs (top 14)) (defBody (top 14)) (defScope (top 14)) [] [] f fd
  fn__law_plus : ∃ f fd, mg "_law_plus" = some (.ref f) ∧ FunD K "_law_plus" "_law_plus" (defArgs (top 18)) (defBody (top 18)) (defScope (top 18)) [] [] f fd
  fn__law_trade : ∃ f fd, mg "_law_trade" = some (.ref f) ∧ FunD K "_law_trade" "_law_trade" (defArgs (top 15)) (defBody (top 15)) (defScope (top 15)) [] [] f fd
  fn__law_market : ∃ f fd, mg "_law_market" = some (.ref f) ∧ FunD K "_law_market" "_law_market" (defArgs (top 16)) (defBody (top 16)) (defScope (top 16)) [] [] f fd
  fn__law_any_market : ∃ f fd, mg "_law_any_market" = some (.ref f) ∧ FunD K "_law_any_market" "_law_any_market" (defArgs (top 17)) (defBody (top 17)) (defScope (top 17)) [] [] f fd
  fn__law_less : ∃ f fd, mg "_law_less" = some (.ref f) ∧ FunD K "_law_less" "_law_less" (defArgs (top 19)) (defBody (top 19)) (defScope (top 19)) [] [] f fd
  fn__law_holds : ∃ f fd, mg "_law_holds" = some (.ref f) ∧ FunD K "_law_holds" "_law_holds" (defArgs (top 20)) (defBody (top 20)) (defScope (top 20)) [] [] f fd
  fn__law_behind : ∃ f fd, mg "_law_behind" = some (.ref f) ∧ FunD K "_law_behind" "_law_behind" (defArgs (top 21)) (defBody (top 21)) (defScope (top 21)) [] [] f fd
  fn__law_around : ∃ f fd, mg "_law_around" = some (.ref f) ∧ FunD K "_law_around" "_law_around" (defArgs (top 22)) (defBody (top 22)) (defScope (top 22)) [] [] f fd
  fn__law_rings : ∃ f fd, mg "_law_rings" = some (.ref f) ∧ FunD K "_law_rings" "_law_rings" (defArgs (top 23)) (defBody (top 23)) (defScope (top 23)) [] [] f fd
  fn_law : ∃ f fd, mg "law" = some (.ref f) ∧ FunD K "law" "law" (defArgs (top 24)) (defBody (top 24)) (defScope (top 24)) [] [] f fd
  free_enumerate : mg "enumerate" = none
  free_int : mg "int" = none
  free_len : mg "len" = none
  free_list : mg "list" = none
  free_range : mg "range" = none
  free_repr : mg "repr" = none
  free_sorted : mg "sorted" = none
  free_tuple : mg "tuple" = none
  free_zip : mg "zip" = none
structure ZB (K : PySem.W.Frag) (mg : Str → Option Value) (base : Heap) : Prop extends Z K mg where
  inb : K.In base
  tbs : TabsB K mg base
section
variable {w : World} {K : PySem.W.Frag} {mg : Str → Option Value} {base : Heap}
theorem cal_plus (z : ZB K mg base) : Cal false pw w K mg base CX0 1 "plus" 2 m_plus := by
  rw [m_plus_e, b_plus_e]
  obtain ⟨f, fd, hm, F⟩ := z.fn_plus
  refine ⟨f, fd, P_plus, hm, F.kp, F.bindsN (fun _ _ _ _ _ _ us hl => match us, hl with | [_, _], _ => rfl), rfl, fnG_of (k := 0) F sc_plus fun cdv A outer s H E hx tk => ?_⟩
  exact ((d_bone (d_ret (d_callT cd_tuple rfl z.free_tuple (by decide +kernel) (d_cons (d_lc (own := [("own", 2), ("more", 3)]) rfl (sc_plus).nd (di_z rfl z.free_zip (d_cons d_var (d_cons d_var d_nil))) (blkOk_by (N := N_plus) (sc := (defScope (top 1))) (own := [("own", 2), ("more", 3)]) (by decide +kernel)) (by decide) (fun _ _ _ _ _ => (dg_tp rfl (dg_cons (dg_nm (sc_plus).nd) (dg_cons (dg_nm (sc_plus).nd) dg_nil)))) (fun _ _ _ _ _ => d_yes) (fun _ _ _ _ _ => (d_op opd_add d_var d_var))) d_nil)))))
theorem cal_minus (z : ZB K mg base) : Cal false pw w K mg base CX0 1 "minus" 2 m_minus := by
  rw [m_minus_e, b_minus_e]
  obtain ⟨f, fd, hm, F⟩ := z.fn_minus
  refine ⟨f, fd, P_minus, hm, F.kp, F.bindsN (fun _ _ _ _ _ _ us hl => match us, hl with | [_, _], _ => rfl), rfl, fnG_of (k := 0) F sc_minus fun cdv A outer s H E hx tk => ?_⟩
  exact ((d_bone (d_ret (d_callT cd_tuple rfl z.free_tuple (by decide +kernel) (d_cons (d_lc (own := [("own", 2), ("less", 3)]) rfl (sc_minus).nd (di_z rfl z.free_zip (d_cons d_var (d_cons d_var d_nil))) (blkOk_by (N := N_minus) (sc := (defScope (top 2))) (own := [("own", 2), ("less", 3)]) (by decide +kernel)) (by decide) (fun _ _ _ _ _ => (dg_tp rfl (dg_cons (dg_nm (sc_minus).nd) (dg_cons (dg_nm (sc_minus).nd) dg_nil)))) (fun _ _ _ _ _ => d_yes) (fun _ _ _ _ _ => (d_op opd_sub d_var d_var))) d_nil)))))
theorem cal_holds (z : ZB K mg base) : Cal false pw w K mg base CX0 1 "holds" 2 m_holds := by
  rw [m_holds_e, b_holds_e, f_holds_1_e, r_holds_1_e]
  obtain ⟨f, fd, hm, F⟩ := z.fn_holds
  refine ⟨f, fd, P_holds, hm, F.kp, F.bindsN (fun _ _ _ _ _ _ us hl => match us, hl with | [_, _], _ => rfl), rfl, fnG_of (k := 0) F sc_holds fun cdv A outer s H E hx tk => ?_⟩
  exact ((d_bcons (d_for hx.pass rfl (di_z rfl z.free_zip (d_cons d_var (d_cons d_var d_nil))) (dg_of (dg_tp rfl (dg_cons (dg_nm (sc_holds).nd) (dg_cons (dg_nm (sc_holds).nd) dg_nil)))) (d_bone (d_if (d_testC (opd_lt hx.hu) d_var d_var (by rfl)) (d_bone (d_ret d_bl)) d_bnil)))
    (d_bone (d_ret d_bl))))
theorem cal_sides (z : ZB K mg base) : Cal false pw w K mg base CX0 1 "sides" 2 m_sides := by
  rw [m_sides_e, b_sides_e]
  obtain ⟨f, fd, hm, F⟩ := z.fn_sides
  refine ⟨f, fd, P_sides, hm, F.kp, F.bindsN (fun _ _ _ _ _ _ us hl => match us, hl with | [_, _], _ => rfl), rfl, fnG_of (k := 0) F sc_sides fun cdv A outer s H E hx tk => ?_⟩
  exact ((d_bone (d_ret (d_ifExp (d_test d_var) (d_tup (d_cons (d_ix d_var d_int) (d_cons (d_ix d_var d_int) d_nil))) (d_tup (d_cons (d_ix d_var d_int) (d_cons (d_ix d_var d_int) d_nil)))))))
theorem cal_moved (z : ZB K mg base) : Cal false pw w K mg base CX0 2 "moved" 3 m_moved := by
  rw [m_moved_e, b_moved_e, r_moved_2_e, r_moved_1_e]
  obtain ⟨f, fd, hm, F⟩ := z.fn_moved
  refine ⟨f, fd, P_moved, hm, F.kp, F.bindsN (fun _ _ _ _ _ _ us hl => match us, hl with | [_, _, _], _ => rfl), rfl, fnG_of (k := 1) F sc_moved fun cdv A outer s H E hx tk => ?_⟩
  exact ((d_bcons (d_asg (d_call (cal_sides z) hx (by omega) rfl (d_cons (d_ix d_var (d_ix d_var d_int)) (d_cons (d_ix d_var d_int) d_nil))) (dg_of (dg_tp rfl (dg_cons (dg_nm (sc_moved).nd) (dg_cons (dg_nm (sc_moved).nd) dg_nil)))))
    (d_bcons (d_if (d_not (d_test (d_call (cal_holds z) hx (by omega) rfl (d_cons d_var (d_cons d_var d_nil))))) (d_bone (d_ret d_non)) d_bnil)
    (d_bone (d_ret (d_call (cal_plus z) hx (by omega) rfl (d_cons (d_call (cal_minus z) hx (by omega) rfl (d_cons d_var (d_cons d_var d_nil))) (d_cons d_var d_nil))))))))
theorem cal_all_steps (z : ZB K mg base) : Cal false pw w K mg base CX0 1 "all_steps" 1 m_all_steps := by
  rw [m_all_steps_e, b_all_steps_e]
  obtain ⟨f, fd, hm, F⟩ := z.fn_all_steps
  refine ⟨f, fd, P_all_steps, hm, F.kp, F.bindsN (fun _ _ _ _ _ _ us hl => match us, hl with | [_], _ => rfl), rfl, fnG_of (k := 0) F sc_all_steps fun cdv A outer s H E hx tk => ?_⟩
  exact ((d_bone (d_ret (d_lc2 (own := [("k", 1), ("back", 2)]) (vs1 := [2]) rfl (sc_all_steps).nd (di_r1 rfl z.free_range (d_cons (d_callB cd_len rfl z.free_len (by decide +kernel) (d_cons (d_ix d_var d_int) d_nil)) d_nil)) (blkOk_by (N := N_all_steps) (sc := (defScope (top 7))) (own := [("k", 1), ("back", 2)]) (by decide +kernel)) (by decide) (by decide) (by decide) (fun _ _ _ _ _ => (dg_nm (sc_all_steps).nd)) (fun _ _ _ _ _ => (di_seq (d_tup (d_cons d_bl (d_cons d_bl d_nil))))) (fun _ _ _ _ _ => (dg_nm (sc_all_steps).nd)) (fun _ _ _ _ _ => (d_tup (d_cons d_var (d_cons d_var d_nil))))))))
theorem cal_rings (z : ZB K mg base) : Cal false pw w K mg base CX0 3 "rings" 3 m_rings := by
  rw [m_rings_e, b_rings_e, r_rings_6_e, f_rings_3_e, r_rings_4_e, f_rings_2_e, f_rings_1_e, r_rings_2_e, r_rings_1_e, r_rings_3_e, r_rings_5_e]
  obtain ⟨f, fd, hm, F⟩ := z.fn_rings
  refine ⟨f, fd, P_rings, hm, F.kp, F.bindsN (fun _ _ _ _ _ _ us hl => match us, hl with | [_, _, _], _ => rfl), rfl, fnG_of (k := 2) F sc_rings fun cdv A outer s H E hx tk => ?_⟩
  exact ((d_bcons (d_par2 hx.calm (sc_rings).nd (d_cons (d_dct1 hx.hu d_var d_bl) (d_cons (d_lstO (d_cons (d_lst (d_cons d_var d_nil)) d_nil)) d_nil)))
    (d_bcons (d_for hx.pass rfl (di_r1 rfl z.free_range (d_cons d_var d_nil)) (dg_of (dg_nm (sc_rings).nd)) (d_bcons (d_set (sc_rings).nd d_dct0)
    (d_bcons (d_for hx.pass rfl (di_seq (d_ix d_var (d_un und_neg d_int))) (dg_of (dg_nm (sc_rings).nd)) (d_bone (d_for hx.pass rfl (di_seq (d_call (cal_all_steps z) hx (by omega) rfl (d_cons d_var d_nil))) (dg_of (dg_nm (sc_rings).nd)) (d_bcons (d_set (sc_rings).nd (d_call (cal_moved z) hx (by omega) rfl (d_cons (d_ix d_var d_int) (d_cons d_var (d_cons d_var d_nil)))))
    (d_bone (d_if (d_pt (d_and (d_testC opd_isNot d_var d_non (by rfl)) (d_and1 (d_testC (opd_notInK hx.hu) d_var d_var (by rfl))))) (d_bcons (s_dput hx.hu d_var d_var d_bl)
    (d_bone (s_dput hx.hu d_var d_var d_bl))) d_bnil))))))
    (d_bone (d_expr (d_bm PySem.F.plainAttrs_list PySem.F.slot_list_append PySem.F.type_list_append mtd_append d_var (d_cons (d_callB (cd_sortedD hx.calm hx.hu) rfl z.free_sorted (by decide +kernel) (d_cons d_var d_nil)) d_nil)))))))
    (d_bone (d_ret (d_fz d_var))))))
theorem cal_each_near (z : ZB K mg base) : CalG pw w K mg base 4 "each_near" 3 m_each_near := by
  rw [m_each_near_e, b_each_near_e, f_each_near_2_e, f_each_near_1_e]
  obtain ⟨f, fd, hm, F⟩ := z.fn_each_near
  refine ⟨f, fd, P_each_near, hm, F.kp, F.bindsN (fun _ _ _ _ _ _ us hl => match us, hl with | [_, _, _], _ => rfl), rfl, gfnD_of (k := 3) F sc_each_near fun cdv A outer s H pn hx => ?_⟩
  exact ((dgb_one (dgs_for hx.pass rfl (di_enum rfl z.free_enumerate (d_cons (d_call (cal_rings z) hx (by omega) rfl (d_cons d_var (d_cons d_var (d_cons d_var d_nil)))) d_nil)) (dg_of (dg_tp rfl (dg_cons (dg_nm (sc_each_near).nd) (dg_cons (dg_nm (sc_each_near).nd) dg_nil)))) (dgb_one (dgs_for hx.pass rfl (di_seq d_var) (dg_of (dg_nm (sc_each_near).nd)) (dgb_one (dgs_yield (d_tup (d_cons d_var (d_cons d_var d_nil))))))))))
theorem cal__law_deck (z : ZB K mg base) : Cal false pw w K mg base CX0 1 "_law_deck" 1 m__law_deck := by
  rw [m__law_deck_e, b__law_deck_e, r__law_deck_1_e]
  obtain ⟨f, fd, hm, F⟩ := z.fn__law_deck
  refine ⟨f, fd, P__law_deck, hm, F.kp, F.bindsN (fun _ _ _ _ _ _ us hl => match us, hl with | [_], _ => rfl), rfl, fnG_of (k := 0) F sc__law_deck fun cdv A outer s H E hx tk => ?_⟩
  exact ((d_bcons (d_set (sc__law_deck).nd (d_op opd_add (d_callT cd_list rfl z.free_list (by decide +kernel) (d_cons (d_sl d_var d_pn (d_ps d_int)) d_nil)) (d_op opd_mul (d_lst (d_cons d_int d_nil)) (d_callT cd_int rfl z.free_int (by decide +kernel) (d_cons (d_cmp (opd_eq hx.hu) (d_callB cd_len rfl z.free_len (by decide +kernel) (d_cons d_var d_nil)) d_int (by rfl)) d_nil)))))
    (d_bone (d_ret (d_lstO (d_cons d_var (d_cons d_int (d_cons (d_lcO (own := [("_law_cell", 2)]) rfl (sc__law_deck).nd (di_seq d_var) (blkOk_by (N := N__law_deck) (sc := (defScope (top 11))) (own := [("_law_cell", 2)]) (by decide +kernel)) (by decide) (fun _ _ _ _ _ => (dg_nm (sc__law_deck).nd)) (fun _ _ _ _ _ => d_yes) (fun _ _ _ _ _ => (d_op opd_mul d_var (d_callT cd_int rfl z.free_int (by decide +kernel) (d_cons (d_cmp opd_ge d_var (d_op opd_pow d_int d_int) (by rfl)) d_nil))))) d_nil))))))))
theorem cal__law_draw (z : ZB K mg base) : Cal false pw w K mg base CX0 1 "_law_draw" 2 m__law_draw := by
  rw [m__law_draw_e, b__law_draw_e, r__law_draw_8_e, r__law_draw_7_e, r__law_draw_6_e, r__law_draw_2_e, r__law_draw_1_e, r__law_draw_5_e, r__law_draw_4_e, r__law_draw_3_e]
  obtain ⟨f, fd, hm, F⟩ := z.fn__law_draw
  refine ⟨f, fd, P__law_draw, hm, F.kp, F.bindsN (fun _ _ _ _ _ _ us hl => match us, hl with | [_, _], _ => rfl), rfl, fnG_of (k := 0) F sc__law_draw fun cdv A outer s H E hx tk => ?_⟩
  exact ((d_bcons (d_asg d_var (dg_unL rfl (dg_cons (dg_nm (sc__law_draw).nd) (dg_cons (dg_nm (sc__law_draw).nd) (dg_cons (dg_nm (sc__law_draw).nd) dg_nil)))))
    (d_bcons (d_set (sc__law_draw).nd (d_op opd_mod (d_callT cd_int rfl z.free_int (by decide +kernel) (d_cons d_var d_nil)) (d_callB cd_len rfl z.free_len (by decide +kernel) (d_cons d_var d_nil))))
    (d_bcons (d_asg (d_op opd_add d_var d_int) (dg_setL d_var d_int))
    (d_bcons (d_if (d_testC opd_gt (d_ix d_var d_var) d_int (by rfl)) (d_bcons (d_set (sc__law_draw).nd (d_op opd_mod (d_callT cd_int rfl z.free_int (by decide +kernel) (d_cons (d_ix d_var d_var) d_nil)) d_var))
    (d_bcons (d_asg (d_op opd_div (d_ix d_var d_var) d_var) (dg_setL d_var d_var))
    (d_bone (d_ret d_var)))) d_bnil)
    (d_bcons (d_set (sc__law_draw).nd (d_op opd_mod (d_op opd_pow (d_op opd_add (d_op opd_add (d_op opd_mod (d_callT cd_int rfl z.free_int (by decide +kernel) (d_cons (d_ix d_var d_var) d_nil)) d_int) (d_op opd_mul d_int d_var)) d_int) d_int) d_int))
    (d_bcons (d_set (sc__law_draw).nd (d_op opd_mod (d_op opd_pow (d_op opd_add (d_op opd_add d_var (d_op opd_mul d_int d_var)) d_int) d_int) d_int))
    (d_bone (d_ret (d_op opd_mod (d_op opd_mod (d_callT cd_int rfl z.free_int (by decide +kernel) (d_cons (d_op opd_add (d_op opd_mul d_var d_int) d_var) d_nil)) d_int) d_var))))))))))
theorem cal__law_bag (z : ZB K mg base) : Cal false pw w K mg base CX0 2 "_law_bag" 3 m__law_bag := by
  rw [m__law_bag_e, b__law_bag_e]
  obtain ⟨f, fd, hm, F⟩ := z.fn__law_bag
  refine ⟨f, fd, P__law_bag, hm, F.kp, F.bindsN (fun _ _ _ _ _ _ us hl => match us, hl with | [_, _, _], _ => rfl), rfl, fnG_of (k := 1) F sc__law_bag fun cdv A outer s H E hx tk => ?_⟩
  exact ((d_bone (d_ret (d_callT cd_tuple rfl z.free_tuple (by decide +kernel) (d_cons (d_lc (own := [("_law_good", 3)]) rfl (sc__law_bag).nd (di_r1 rfl z.free_range (d_cons d_var d_nil)) (blkOk_by (N := N__law_bag) (sc := (defScope (top 13))) (own := [("_law_good", 3)]) (by decide +kernel)) (by decide) (fun _ _ _ _ _ => (dg_nm (sc__law_bag).nd)) (fun _ _ _ _ _ => d_yes) (fun _ _ _ _ _ => (d_call (cal__law_draw z) (XC.blk hx _ _ _ _ _) (by omega) rfl (d_cons d_var (d_cons (d_op opd_add d_var d_int) d_nil))))) d_nil)))))
theorem cal__law_side (z : ZB K mg base) : Cal false pw w K mg base CX0 2 "_law_side" 3 m__law_side := by
  rw [m__law_side_e, b__law_side_e, r__law_side_3_e, f__law_side_1_e, r__law_side_1_e, r__law_side_2_e]
  obtain ⟨f, fd, hm, F⟩ := z.fn__law_side
  refine ⟨f, fd, P__law_side, hm, F.kp, F.bindsN (fun _ _ _ _ _ _ us hl => match us, hl with | [_, _, _], _ => rfl), rfl, fnG_of (k := 1) F sc__law_side fun cdv A outer s H E hx tk => ?_⟩
  exact ((d_bcons (d_set (sc__law_side).nd (d_op opd_mulO (d_lst (d_cons d_int d_nil)) d_var))
    (d_bcons (d_for hx.pass rfl (di_r1 rfl z.free_range (d_cons (d_call (cal__law_draw z) hx (by omega) rfl (d_cons d_var (d_cons (d_op opd_add d_var d_int) d_nil))) d_nil)) (dg_of (dg_nm (sc__law_side).nd)) (d_bcons (d_set (sc__law_side).nd (d_call (cal__law_draw z) hx (by omega) rfl (d_cons d_var (d_cons d_var d_nil))))
    (d_bone (d_asg (d_op opd_add (d_ix d_var d_var) (d_callT cd_int rfl z.free_int (by decide +kernel) (d_cons (d_cmp (opd_lt hx.hu) (d_ix d_var d_var) d_int (by rfl)) d_nil))) (dg_setL d_var d_var)))))
    (d_bone (d_ret (d_callT cd_tuple rfl z.free_tuple (by decide +kernel) (d_cons d_var d_nil)))))))
theorem cal__law_plus (z : ZB K mg base) : Cal false pw w K mg base CX0 1 "_law_plus" 2 m__law_plus := by
  rw [m__law_plus_e, b__law_plus_e]
  obtain ⟨f, fd, hm, F⟩ := z.fn__law_plus
  refine ⟨f, fd, P__law_plus, hm, F.kp, F.bindsN (fun _ _ _ _ _ _ us hl => match us, hl with | [_, _], _ => rfl), rfl, fnG_of (k := 0) F sc__law_plus fun cdv A outer s H E hx tk => ?_⟩
  exact ((d_bone (d_ret (d_callT cd_tuple rfl z.free_tuple (by decide +kernel) (d_cons (d_lc (own := [("_law_own", 2), ("_law_more", 3)]) rfl (sc__law_plus).nd (di_z rfl z.free_zip (d_cons d_var (d_cons d_var d_nil))) (blkOk_by (N := N__law_plus) (sc := (defScope (top 18))) (own := [("_law_own", 2), ("_law_more", 3)]) (by decide +kernel)) (by decide) (fun _ _ _ _ _ => (dg_tp rfl (dg_cons (dg_nm (sc__law_plus).nd) (dg_cons (dg_nm (sc__law_plus).nd) dg_nil)))) (fun _ _ _ _ _ => d_yes) (fun _ _ _ _ _ => (d_op opd_add d_var d_var))) d_nil)))))
theorem cal__law_trade (z : ZB K mg base) : Cal false pw w K mg base CX0 3 "_law_trade" 3 m__law_trade := by
  rw [m__law_trade_e, b__law_trade_e, r__law_trade_4_e, r__law_trade_3_e, r__law_trade_2_e, r__law_trade_1_e]
  obtain ⟨f, fd, hm, F⟩ := z.fn__law_trade
  refine ⟨f, fd, P__law_trade, hm, F.kp, F.bindsN (fun _ _ _ _ _ _ us hl => match us, hl with | [_, _, _], _ => rfl), rfl, fnG_of (k := 2) F sc__law_trade fun cdv A outer s H E hx tk => ?_⟩
  exact ((d_bcons (d_if (d_pt (d_or (d_testC (opd_lt hx.hu) d_var d_int (by rfl)) (d_or1 (d_testC (opd_eq hx.hu) (d_call (cal__law_draw z) hx (by omega) rfl (d_cons d_var (d_cons d_int d_nil))) d_int (by rfl))))) (d_bone (d_ret (d_tup (d_cons (d_call (cal__law_side z) hx (by omega) rfl (d_cons d_var (d_cons d_var (d_cons d_var d_nil)))) (d_cons (d_call (cal__law_side z) hx (by omega) rfl (d_cons d_var (d_cons d_var (d_cons d_var d_nil)))) d_nil))))) d_bnil)
    (d_bcons (d_asg (d_tup (d_cons (d_call (cal__law_draw z) hx (by omega) rfl (d_cons d_var (d_cons d_var d_nil))) (d_cons (d_op opd_add d_int (d_call (cal__law_draw z) hx (by omega) rfl (d_cons d_var (d_cons (d_op opd_sub d_var d_int) d_nil)))) d_nil))) (dg_of (dg_tp rfl (dg_cons (dg_nm (sc__law_trade).nd) (dg_cons (dg_nm (sc__law_trade).nd) dg_nil)))))
    (d_bcons (d_set (sc__law_trade).nd (d_callT cd_tuple rfl z.free_tuple (by decide +kernel) (d_cons (d_lc (own := [("_law_good", 8)]) rfl (sc__law_trade).nd (di_r1 rfl z.free_range (d_cons d_var d_nil)) (blkOk_by (N := N__law_trade) (sc := (defScope (top 15))) (own := [("_law_good", 8)]) (by decide +kernel)) (by decide) (fun _ _ _ _ _ => (dg_nm (sc__law_trade).nd)) (fun _ _ _ _ _ => d_yes) (fun _ _ _ _ _ => (d_op opd_mul d_var (d_callT cd_int rfl z.free_int (by decide +kernel) (d_cons (d_cmp (opd_eq (XC.blk hx _ _ _ _ _).hu) d_var d_var (by rfl)) d_nil))))) d_nil)))
    (d_bcons (d_par2 hx.calm (sc__law_trade).nd (d_cons (d_call (cal__law_side z) hx (by omega) rfl (d_cons d_var (d_cons d_var (d_cons d_int d_nil)))) (d_cons (d_call (cal__law_side z) hx (by omega) rfl (d_cons d_var (d_cons d_var (d_cons d_int d_nil)))) d_nil)))
    (d_bone (d_ret (d_ifExp (d_testC (opd_lt hx.hu) d_var d_int (by rfl)) (d_tup (d_cons (d_call (cal__law_plus z) hx (by omega) rfl (d_cons d_var (d_cons d_var d_nil))) (d_cons (d_call (cal__law_plus z) hx (by omega) rfl (d_cons d_var (d_cons d_var d_nil))) d_nil))) (d_tup (d_cons (d_call (cal__law_plus z) hx (by omega) rfl (d_cons d_var (d_cons d_var d_nil))) (d_cons d_var d_nil)))))))))))
theorem cal__law_market (z : ZB K mg base) : Cal false pw w K mg base CX0 4 "_law_market" 4 m__law_market := by
  rw [m__law_market_e, b__law_market_e]
  obtain ⟨f, fd, hm, F⟩ := z.fn__law_market
  refine ⟨f, fd, P__law_market, hm, F.kp, F.bindsN (fun _ _ _ _ _ _ us hl => match us, hl with | [_, _, _, _], _ => rfl), rfl, fnG_of (k := 3) F sc__law_market fun cdv A outer s H E hx tk => ?_⟩
  exact ((d_bone (d_ret (d_tup (d_cons d_var (d_cons (d_callT cd_tuple rfl z.free_tuple (by decide +kernel) (d_cons (d_lc (own := [("_law_k", 4)]) rfl (sc__law_market).nd (di_r1 rfl z.free_range (d_cons (d_call (cal__law_draw z) hx (by omega) rfl (d_cons d_var (d_cons (d_op opd_add d_var d_int) d_nil))) d_nil)) (blkOk_by (N := N__law_market) (sc := (defScope (top 16))) (own := [("_law_k", 4)]) (by decide +kernel)) (by decide) (fun _ _ _ _ _ => (dg_nm (sc__law_market).nd)) (fun _ _ _ _ _ => d_yes) (fun _ _ _ _ _ => (d_call (cal__law_trade z) (XC.blk hx _ _ _ _ _) (by omega) rfl (d_cons d_var (d_cons d_var (d_cons d_var d_nil)))))) d_nil)) d_nil))))))
theorem cal__law_any_market (z : ZB K mg base) : Cal false pw w K mg base CX0 5 "_law_any_market" 1 m__law_any_market := by
  rw [m__law_any_market_e, b__law_any_market_e, r__law_any_market_1_e]
  obtain ⟨f, fd, hm, F⟩ := z.fn__law_any_market
  refine ⟨f, fd, P__law_any_market, hm, F.kp, F.bindsN (fun _ _ _ _ _ _ us hl => match us, hl with | [_], _ => rfl), rfl, fnG_of (k := 4) F sc__law_any_market fun cdv A outer s H E hx tk => ?_⟩
  exact ((d_bcons (d_set (sc__law_any_market).nd (d_op opd_add d_int (d_call (cal__law_draw z) hx (by omega) rfl (d_cons d_var (d_cons d_int d_nil)))))
    (d_bone (d_ret (d_call (cal__law_market z) hx (by omega) rfl (d_cons d_var (d_cons d_var (d_cons (d_ifExp (d_testC (opd_lt hx.hu) d_var d_int (by rfl)) d_int (d_op opd_sub d_int d_var)) (d_cons (d_ifExp (d_testC (opd_lt hx.hu) d_var d_int (by rfl)) d_int d_int) d_nil)))))))))
theorem cal__law_less (z : ZB K mg base) : Cal false pw w K mg base CX0 1 "_law_less" 2 m__law_less := by
  rw [m__law_less_e, b__law_less_e]
  obtain ⟨f, fd, hm, F⟩ := z.fn__law_less
  refine ⟨f, fd, P__law_less, hm, F.kp, F.bindsN (fun _ _ _ _ _ _ us hl => match us, hl with | [_, _], _ => rfl), rfl, fnG_of (k := 0) F sc__law_less fun cdv A outer s H E hx tk => ?_⟩
  exact ((d_bone (d_ret (d_callT cd_tuple rfl z.free_tuple (by decide +kernel) (d_cons (d_lc (own := [("_law_own", 2), ("_law_more", 3)]) rfl (sc__law_less).nd (di_z rfl z.free_zip (d_cons d_var (d_cons d_var d_nil))) (blkOk_by (N := N__law_less) (sc := (defScope (top 19))) (own := [("_law_own", 2), ("_law_more", 3)]) (by decide +kernel)) (by decide) (fun _ _ _ _ _ => (dg_tp rfl (dg_cons (dg_nm (sc__law_less).nd) (dg_cons (dg_nm (sc__law_less).nd) dg_nil)))) (fun _ _ _ _ _ => d_yes) (fun _ _ _ _ _ => (d_op opd_sub d_var d_var))) d_nil)))))
theorem cal__law_holds (z : ZB K mg base) : Cal false pw w K mg base CX0 1 "_law_holds" 2 m__law_holds := by
  rw [m__law_holds_e, b__law_holds_e]
  obtain ⟨f, fd, hm, F⟩ := z.fn__law_holds
  refine ⟨f, fd, P__law_holds, hm, F.kp, F.bindsN (fun _ _ _ _ _ _ us hl => match us, hl with | [_, _], _ => rfl), rfl, fnG_of (k := 0) F sc__law_holds fun cdv A outer s H E hx tk => ?_⟩
  exact ((d_bone (d_ret (d_cmp (opd_eqN hx.hu) (d_lc (own := [("_law_own", 2), ("_law_more", 3)]) rfl (sc__law_holds).nd (di_z rfl z.free_zip (d_cons d_var (d_cons d_var d_nil))) (blkOk_by (N := N__law_holds) (sc := (defScope (top 20))) (own := [("_law_own", 2), ("_law_more", 3)]) (by decide +kernel)) (by decide) (fun _ _ _ _ _ => (dg_tp rfl (dg_cons (dg_nm (sc__law_holds).nd) (dg_cons (dg_nm (sc__law_holds).nd) dg_nil)))) (fun _ _ _ _ _ => (d_ifs (d_testC (opd_lt (XC.blk hx _ _ _ _ _).hu) d_var d_var (by rfl)))) (fun _ _ _ _ _ => d_var)) (d_lst d_nil) (by rfl)))))
theorem cal__law_behind (z : ZB K mg base) : Cal false pw w K mg base CX0 2 "_law_behind" 4 m__law_behind := by
  rw [m__law_behind_e, b__law_behind_e, r__law_behind_1_e]
  obtain ⟨f, fd, hm, F⟩ := z.fn__law_behind
  refine ⟨f, fd, P__law_behind, hm, F.kp, F.bindsN (fun _ _ _ _ _ _ us hl => match us, hl with | [_, _, _, _], _ => rfl), rfl, fnG_of (k := 1) F sc__law_behind fun cdv A outer s H E hx tk => ?_⟩
  exact ((d_bcons (d_asg (d_ifExp (d_test d_var) (d_tup (d_cons (d_ix (d_ix d_var d_var) d_int) (d_cons (d_ix (d_ix d_var d_var) d_int) d_nil))) (d_tup (d_cons (d_ix (d_ix d_var d_var) d_int) (d_cons (d_ix (d_ix d_var d_var) d_int) d_nil)))) (dg_of (dg_tp rfl (dg_cons (dg_nm (sc__law_behind).nd) (dg_cons (dg_nm (sc__law_behind).nd) dg_nil)))))
    (d_bone (d_ret (d_ifExp (d_test (d_call (cal__law_holds z) hx (by omega) rfl (d_cons d_var (d_cons d_var d_nil)))) (d_call (cal__law_plus z) hx (by omega) rfl (d_cons (d_call (cal__law_less z) hx (by omega) rfl (d_cons d_var (d_cons d_var d_nil))) (d_cons d_var d_nil))) d_non)))))
theorem cal__law_around (z : ZB K mg base) : Cal false pw w K mg base CX0 3 "_law_around" 2 m__law_around := by
  rw [m__law_around_e, b__law_around_e, r__law_around_3_e, f__law_around_2_e, f__law_around_1_e, r__law_around_1_e, r__law_around_2_e]
  obtain ⟨f, fd, hm, F⟩ := z.fn__law_around
  refine ⟨f, fd, P__law_around, hm, F.kp, F.bindsN (fun _ _ _ _ _ _ us hl => match us, hl with | [_, _], _ => rfl), rfl, fnG_of (k := 2) F sc__law_around fun cdv A outer s H E hx tk => ?_⟩
  exact ((d_bcons (d_set (sc__law_around).nd (d_lstO d_nil))
    (d_bcons (d_for hx.pass rfl (di_r1 rfl z.free_range (d_cons (d_callB cd_len rfl z.free_len (by decide +kernel) (d_cons d_var d_nil)) d_nil)) (dg_of (dg_nm (sc__law_around).nd)) (d_bone (d_for hx.pass rfl (di_seq (d_tup (d_cons d_bl (d_cons d_bl d_nil)))) (dg_of (dg_nm (sc__law_around).nd)) (d_bcons (d_set (sc__law_around).nd (d_call (cal__law_behind z) hx (by omega) rfl (d_cons d_var (d_cons d_var (d_cons d_var (d_cons d_var d_nil))))))
    (d_bone (d_if (d_testC opd_isNot d_var d_non (by rfl)) (d_bone (d_expr (d_bm PySem.F.plainAttrs_list PySem.F.slot_list_append PySem.F.type_list_append mtd_append d_var (d_cons d_var d_nil)))) d_bnil))))))
    (d_bone (d_ret (d_fz d_var))))))
theorem cal__law_rings (z : ZB K mg base) : Cal false pw w K mg base CX0 4 "_law_rings" 3 m__law_rings := by
  rw [m__law_rings_e, b__law_rings_e, r__law_rings_5_e, f__law_rings_3_e, r__law_rings_3_e, f__law_rings_2_e, f__law_rings_1_e, r__law_rings_1_e, r__law_rings_2_e, r__law_rings_4_e]
  obtain ⟨f, fd, hm, F⟩ := z.fn__law_rings
  refine ⟨f, fd, P__law_rings, hm, F.kp, F.bindsN (fun _ _ _ _ _ _ us hl => match us, hl with | [_, _, _], _ => rfl), rfl, fnG_of (k := 3) F sc__law_rings fun cdv A outer s H E hx tk => ?_⟩
  exact ((d_bcons (d_par2 hx.calm (sc__law_rings).nd (d_cons (d_dct1 hx.hu d_var d_int) (d_cons (d_lstO (d_cons (d_lst (d_cons d_var d_nil)) d_nil)) d_nil)))
    (d_bcons (d_for hx.pass rfl (di_r1 rfl z.free_range (d_cons d_var d_nil)) (dg_of (dg_nm (sc__law_rings).nd)) (d_bcons (d_set (sc__law_rings).nd (d_lstO d_nil))
    (d_bcons (d_for hx.pass rfl (di_seq (d_ix d_var (d_un und_neg d_int))) (dg_of (dg_nm (sc__law_rings).nd)) (d_bone (d_for hx.pass rfl (di_seq (d_call (cal__law_around z) hx (by omega) rfl (d_cons d_var (d_cons d_var d_nil)))) (dg_of (dg_nm (sc__law_rings).nd)) (d_bone (d_if (d_testC (opd_notInK hx.hu) d_var d_var (by rfl)) (d_bcons (s_dput hx.hu d_var d_var (d_op opd_add d_var d_int))
    (d_bone (d_expr (d_bm PySem.F.plainAttrs_list PySem.F.slot_list_append PySem.F.type_list_append mtd_append d_var (d_cons d_var d_nil))))) d_bnil)))))
    (d_bone (d_expr (d_bm PySem.F.plainAttrs_list PySem.F.slot_list_append PySem.F.type_list_append mtd_append d_var (d_cons (d_callB (cd_sorted hx.hu) rfl z.free_sorted (by decide +kernel) (d_cons (d_fz d_var) d_nil)) d_nil)))))))
    (d_bone (d_ret (d_fz d_var))))))
theorem ok_law {f : Addr} {fd : FuncData} (F : FunD K "law" "law" (defArgs (top 24)) (defBody (top 24)) (defScope (top 24)) [] [] f fd) (z : ZB K mg base) : FnG true pw w K mg base CX0 8 f fd P_law (spD K 1 m_law) := by
  rw [m_law_e, b_law_e, r_law_8_e, f_law_2_e, r_law_6_e, r_law_5_e, r_law_4_e, r_law_3_e, f_law_1_e, r_law_2_e, r_law_1_e, r_law_7_e]
  refine fnG_of (k := 7) F sc_law fun cdv A outer s H E hx tk => ?_
  exact ((d_bcons (d_set (sc_law).nd (d_call (cal__law_deck z) hx (by omega) rfl (d_cons d_var d_nil)))
    (d_bcons (d_for hx.pass rfl (di_r1 rfl z.free_range (d_cons d_int d_nil)) (dg_of (dg_nm (sc_law).nd)) (d_bcons (d_set (sc_law).nd (d_call (cal__law_any_market z) hx (by omega) rfl (d_cons d_var d_nil)))
    (d_bcons (d_set (sc_law).nd (d_call (cal__law_draw z) hx (by omega) rfl (d_cons d_var (d_cons (d_ifExp (d_testC (opd_lt hx.hu) (d_callB cd_len rfl z.free_len (by decide +kernel) (d_cons (d_ix d_var d_int) d_nil)) d_int (by rfl)) d_int d_int) d_nil))))
    (d_bcons (d_par2 hx.calm (sc_law).nd (d_cons (d_call (cal__law_bag z) hx (by omega) rfl (d_cons d_var (d_cons (d_ix d_var d_int) (d_cons d_int d_nil)))) (d_cons (d_lstO d_nil) d_nil)))
    (d_bcons (d_set (sc_law).nd (d_call (cal__law_rings z) hx (by omega) rfl (d_cons (d_ix d_var d_int) (d_cons d_var (d_cons d_var d_nil)))))
    (d_bcons (d_for hx.pass rfl (di_r1 rfl z.free_range (d_cons (d_callB cd_len rfl z.free_len (by decide +kernel) (d_cons d_var d_nil)) d_nil)) (dg_of (dg_nm (sc_law).nd)) (d_bone (d_expr (d_bm PySem.F.plainAttrs_list PySem.F.slot_list_extend PySem.F.type_list_extend mtd_extend d_var (d_cons (d_lc (own := [("_law_other", 9)]) rfl (sc_law).nd (di_seq (d_ix d_var d_var)) (blkOk_by (N := N_law) (sc := (defScope (top 24))) (own := [("_law_other", 9)]) (by decide +kernel)) (by decide) (fun _ _ _ _ _ => (dg_nm (sc_law).nd)) (fun _ _ _ _ _ => d_yes) (fun _ _ _ _ _ => (d_tup (d_cons d_var (d_cons d_var d_nil))))) d_nil)))))
    (d_bcons (d_if (d_testC (opd_ne hx.hu) (d_callB (cd_repr (hx.guards rfl) hx.hu) rfl z.free_repr (by decide +kernel) (d_cons (d_listG (cal_each_near z) hx (by omega) rfl rfl z.free_list (d_cons d_var (d_cons d_var (d_cons d_var d_nil)))) d_nil)) (d_callB (cd_repr (hx.guards rfl) hx.hu) rfl z.free_repr (by decide +kernel) (d_cons (d_fz d_var) d_nil)) (by rfl)) (d_bone (d_ret d_bl)) d_bnil)
    (d_bone (d_if (d_testC (opd_ne hx.hu) (d_callB (cd_repr (hx.guards rfl) hx.hu) rfl z.free_repr (by decide +kernel) (d_cons (d_lcG (own := [("_law_pair", 10)]) (cal_each_near z) hx (by omega) rfl (blkOk_by (N := N_law) (sc := (defScope (top 24))) (own := [("_law_pair", 10)]) (by decide +kernel)) (d_cons d_var (d_cons d_var (d_cons d_int d_nil))) rfl (fun _ => rfl)) d_nil)) (d_callB (cd_repr (hx.guards rfl) hx.hu) rfl z.free_repr (by decide +kernel) (d_cons (d_lst (d_cons (d_tup (d_cons d_int (d_cons d_var d_nil))) d_nil)) d_nil)) (by rfl)) (d_bone (d_ret d_bl)) d_bnil)))))))))
    (d_bone (d_ret d_bl)))))
end
def fn : List He5.DefA := [⟨atG "plus", "plus", "plus", defArgs (top 1), defBody (top 1), defScope (top 1), [], []⟩, ⟨atG "minus", "minus", "minus", defArgs (top 2), defBody (top 2), defScope (top 2), [], []⟩, ⟨atG "holds", "holds", "holds", defArgs (top 3), defBody (top 3), defScope (top 3), [], []⟩, ⟨atG "sides", "sides", "sides", defArgs (top 5), defBody (top 5), defScope (top 5), [], []⟩, ⟨atG "moved", "moved", "moved", defArgs (top 6), defBody (top 6), defScope (top 6), [], []⟩, ⟨atG "all_steps", "all_steps", "all_steps", defArgs (top 7), defBody (top 7), defScope (top 7), [], []⟩, ⟨atG "rings", "rings", "rings", defArgs (top 8), defBody (top 8), defScope (top 8), [], []⟩, ⟨atG "each_near", "each_near", "each_near", defArgs (top 9), defBody (top 9), defScope (top 9), [], []⟩, ⟨atG "_law_deck", "_law_deck", "_law_deck", defArgs (top 11), defBody (top 11), defScope (top 11), [], []⟩, ⟨atG "_law_draw", "_law_draw", "_law_draw", defArgs (top 12), defBody (top 12), defScope (top 12), [], []⟩, ⟨atG "_law_bag", "_law_bag", "_law_bag", defArgs (top 13), defBody (top 13), defScope (top 13), [], []⟩, ⟨atG "_law_side", "_law_side", "_law_side", defArgs (top 14), defBody (top 14), defScope (top 14), [], []⟩, ⟨atG "_law_plus", "_law_plus", "_law_plus", defArgs (top 18), defBody (top 18), defScope (top 18), [], []⟩, ⟨atG "_law_trade", "_law_trade", "_law_trade", defArgs (top 15), defBody (top 15), defScope (top 15), [], []⟩, ⟨atG "_law_market", "_law_market", "_law_market", defArgs (top 16), defBody (top 16), defScope (top 16), [], []⟩, ⟨atG "_law_any_market", "_law_any_market", "_law_any_market", defArgs (top 17), defBody (top 17), defScope (top 17), [], []⟩, ⟨atG "_law_less", "_law_less", "_law_less", defArgs (top 19), defBody (top 19), defScope (top 19), [], []⟩, ⟨atG "_law_holds", "_law_holds", "_law_holds", defArgs (top 20), defBody (top 20), defScope (top 20), [], []⟩, ⟨atG "_law_behind", "_law_behind", "_law_behind", defArgs (top 21), defBody (top 21), defScope (top 21), [], []⟩, ⟨atG "_law_around", "_law_around", "_law_around", defArgs (top 22), defBody (top 22), defScope (top 22), [], []⟩, ⟨atG "_law_rings", "_law_rings", "_law_rings", defArgs (top 23), defBody (top 23), defScope (top 23), [], []⟩, ⟨atG "law", "law", "law", defArgs (top 24), defBody (top 24), defScope (top 24), [], []⟩]
def own : List FB := []
def xs : List Str := (["_law_any_market", "_law_around", "_law_bag", "_law_behind", "_law_deck", "_law_draw", "_law_holds", "_law_less", "_law_market", "_law_plus", "_law_rings", "_law_side", "_law_trade", "all_steps", "each_near", "holds"] : List Str) ++ (["law", "minus", "moved", "plus", "rings", "sides"] : List Str)
def fs : List DefS := []
def fa : List He.Fa := [.glo "plus", .glo "minus", .glo "holds", .glo "sides", .glo "moved", .glo "all_steps", .glo "rings", .glo "each_near", .glo "_law_deck", .glo "_law_draw", .glo "_law_bag", .glo "_law_side", .glo "_law_plus", .glo "_law_trade", .glo "_law_market", .glo "_law_any_market", .glo "_law_less", .glo "_law_holds", .glo "_law_behind", .glo "_law_around", .glo "_law_rings", .glo "law", .free "enumerate", .free "int", .free "len", .free "list", .free "range", .free "repr", .free "sorted", .free "tuple", .free "zip"]
theorem z_of {K : PySem.W.Frag} {h : Heap} {mg : Str → Option Value} (X : K.In h) (G : h.Ns mainGlobals mg) (c : SaysX fa fn own K) : Z K mg where
  fn_plus := by
    obtain ⟨fd, F⟩ := c.1.def_ 0 (d := ⟨atG "plus", "plus", "plus", defArgs (top 1), defBody (top 1), defScope (top 1), [], []⟩) rfl
    exact ⟨_, fd, He.glo_ok X G (c.1.fact 0 (f := .glo "plus") rfl), F⟩
  fn_minus := by
    obtain ⟨fd, F⟩ := c.1.def_ 1 (d := ⟨atG "minus", "minus", "minus", defArgs (top 2), defBody (top 2), defScope (top 2), [], []⟩) rfl
    exact ⟨_, fd, He.glo_ok X G (c.1.fact 1 (f := .glo "minus") rfl), F⟩
  fn_holds := by
    obtain ⟨fd, F⟩ := c.1.def_ 2 (d := ⟨atG "holds", "holds", "holds", defArgs (top 3), defBody (top 3), defScope (top 3), [], []⟩) rfl
    exact ⟨_, fd, He.glo_ok X G (c.1.fact 2 (f := .glo "holds") rfl), F⟩
  fn_sides := by
    obtain ⟨fd, F⟩ := c.1.def_ 3 (d := ⟨atG "sides", "sides", "sides", defArgs (top 5), defBody (top 5), defScope (top 5), [], []⟩) rfl
    exact ⟨_, fd, He.glo_ok X G (c.1.fact 3 (f := .glo "sides") rfl), F⟩
  fn_moved := by
    obtain ⟨fd, F⟩ := c.1.def_ 4 (d := ⟨atG "moved", "moved", "moved", defArgs (top 6), defBody (top 6), defScope (top 6), [], []⟩) rfl
    exact ⟨_, fd, He.glo_ok X G (c.1.fact 4 (f := .glo "moved") rfl), F⟩
  fn_all_steps := by
    obtain ⟨fd, F⟩ := c.1.def_ 5 (d := ⟨atG "all_steps", "all_steps", "all_steps", defArgs (top 7), defBody (top 7), defScope (top 7), [], []⟩) rfl
    exact ⟨_, fd, He.glo_ok X G (c.1.fact 5 (f := .glo "all_steps") rfl), F⟩
  fn_rings := by
    obtain ⟨fd, F⟩ := c.1.def_ 6 (d := ⟨atG "rings", "rings", "rings", defArgs (top 8), defBody (top 8), defScope (top 8), [], []⟩) rfl
    exact ⟨_, fd, He.glo_ok X G (c.1.fact 6 (f := .glo "rings") rfl), F⟩
  fn_each_near := by
    obtain ⟨fd, F⟩ := c.1.def_ 7 (d := ⟨atG "each_near", "each_near", "each_near", defArgs (top 9), defBody (top 9), defScope (top 9), [], []⟩) rfl
    exact ⟨_, fd, He.glo_ok X G (c.1.fact 7 (f := .glo "each_near") rfl), F⟩
  fn__law_deck := by
    obtain ⟨fd, F⟩ := c.1.def_ 8 (d := ⟨atG "_law_deck", "_law_deck", "_law_deck", defArgs (top 11), defBody (top 11), defScope (top 11), [], []⟩) rfl
    exact ⟨_, fd, He.glo_ok X G (c.1.fact 8 (f := .glo "_law_deck") rfl), F⟩
  fn__law_draw := by
    obtain ⟨fd, F⟩ := c.1.def_ 9 (d := ⟨atG "_law_draw", "_law_draw", "_law_draw", defArgs (top 12), defBody (top 12), defScope (top 12), [], []⟩) rfl
    exact ⟨_, fd, He.glo_ok X G (c.1.fact 9 (f := .glo "_law_draw") rfl), F⟩
  fn__law_bag := by
    obtain ⟨fd, F⟩ := c.1.def_ 10 (d := ⟨atG "_law_bag", "_law_bag", "_law_bag", defArgs (top 13), defBody (top 13), defScope (top 13), [], []⟩) rfl
    exact ⟨_, fd, He.glo_ok X G (c.1.fact 10 (f := .glo "_law_bag") rfl), F⟩
  fn__law_side := by
    obtain ⟨fd, F⟩ := c.1.def_ 11 (d := ⟨atG "_law_side", "_law_side", "_law_side", defArgs (top 14), defBody (top 14), defScope (top 14), [], []⟩) rfl
    exact ⟨_, fd, He.glo_ok X G (c.1.fact 11 (f := .glo "_law_side") rfl), F⟩
  fn__law_plus := by
    obtain ⟨fd, F⟩ := c.1.def_ 12 (d := ⟨atG "_law_plus", "_law_plus", "_law_plus", defArgs (top 18), defBody (top 18), defScope (top 18), [], []⟩) rfl
    exact ⟨_, fd, He.glo_ok X G (c.1.fact 12 (f := .glo "_law_plus") rfl), F⟩
  fn__law_trade := by
    obtain ⟨fd, F⟩ := c.1.def_ 13 (d := ⟨atG "_law_trade", "_law_trade", "_law_trade", defArgs (top 15), defBody (top 15), defScope (top 15), [], []⟩) rfl
    exact ⟨_, fd, He.glo_ok X G (c.1.fact 13 (f := .glo "_law_trade") rfl), F⟩
  fn__law_market := by
    obtain ⟨fd, F⟩ := c.1.def_ 14 (d := ⟨atG "_law_market", "_law_market", "_law_market", defArgs (top 16), defBody (top 16), defScope (top 16), [], []⟩) rfl
    exact ⟨_, fd, He.glo_ok X G (c.1.fact 14 (f := .glo "_law_market") rfl), F⟩
  fn__law_any_market := by
    obtain ⟨fd, F⟩ := c.1.def_ 15 (d := ⟨atG "_law_any_market", "_law_any_market", "_law_any_market", defArgs (top 17), defBody (top 17), defScope (top 17), [], []⟩) rfl
    exact ⟨_, fd, He.glo_ok X G (c.1.fact 15 (f := .glo "_law_any_market") rfl), F⟩
  fn__law_less := by
    obtain ⟨fd, F⟩ := c.1.def_ 16 (d := ⟨atG "_law_less", "_law_less", "_law_less", defArgs (top 19), defBody (top 19), defScope (top 19), [], []⟩) rfl
    exact ⟨_, fd, He.glo_ok X G (c.1.fact 16 (f := .glo "_law_less") rfl), F⟩
  fn__law_holds := by
    obtain ⟨fd, F⟩ := c.1.def_ 17 (d := ⟨atG "_law_holds", "_law_holds", "_law_holds", defArgs (top 20), defBody (top 20), defScope (top 20), [], []⟩) rfl
    exact ⟨_, fd, He.glo_ok X G (c.1.fact 17 (f := .glo "_law_holds") rfl), F⟩
  fn__law_behind := by
    obtain ⟨fd, F⟩ := c.1.def_ 18 (d := ⟨atG "_law_behind", "_law_behind", "_law_behind", defArgs (top 21), defBody (top 21), defScope (top 21), [], []⟩) rfl
    exact ⟨_, fd, He.glo_ok X G (c.1.fact 18 (f := .glo "_law_behind") rfl), F⟩
  fn__law_around := by
    obtain ⟨fd, F⟩ := c.1.def_ 19 (d := ⟨atG "_law_around", "_law_around", "_law_around", defArgs (top 22), defBody (top 22), defScope (top 22), [], []⟩) rfl
    exact ⟨_, fd, He.glo_ok X G (c.1.fact 19 (f := .glo "_law_around") rfl), F⟩
  fn__law_rings := by
    obtain ⟨fd, F⟩ := c.1.def_ 20 (d := ⟨atG "_law_rings", "_law_rings", "_law_rings", defArgs (top 23), defBody (top 23), defScope (top 23), [], []⟩) rfl
    exact ⟨_, fd, He.glo_ok X G (c.1.fact 20 (f := .glo "_law_rings") rfl), F⟩
  fn_law := by
    obtain ⟨fd, F⟩ := c.1.def_ 21 (d := ⟨atG "law", "law", "law", defArgs (top 24), defBody (top 24), defScope (top 24), [], []⟩) rfl
    exact ⟨_, fd, He.glo_ok X G (c.1.fact 21 (f := .glo "law") rfl), F⟩
  free_enumerate := He.free_ok X G (c.1.fact 22 (f := .free "enumerate") rfl)
  free_int := He.free_ok X G (c.1.fact 23 (f := .free "int") rfl)
  free_len := He.free_ok X G (c.1.fact 24 (f := .free "len") rfl)
  free_list := He.free_ok X G (c.1.fact 25 (f := .free "list") rfl)
  free_range := He.free_ok X G (c.1.fact 26 (f := .free "range") rfl)
  free_repr := He.free_ok X G (c.1.fact 27 (f := .free "repr") rfl)
  free_sorted := He.free_ok X G (c.1.fact 28 (f := .free "sorted") rfl)
  free_tuple := He.free_ok X G (c.1.fact 29 (f := .free "tuple") rfl)
  free_zip := He.free_ok X G (c.1.fact 30 (f := .free "zip") rfl)
abbrev R : PySem.W.OpenRow := PySem.W.OpenLaw.row PySem.Challenge.rw_lentbeside_k03_what_is_near
abbrev hk : PySem.W.Hook := hookX 4 fa fn own
def ob (s : PySem.W.SharedT) : He.AlD × Bool := obsX 4 fa fn own (HandSHeadRun.getT s)
theorem ob_eq (s : PySem.W.SharedT) : ob s = hk.obs s.abs := obsX_eq (HandSHeadRun.getT_eq s)
def loose : List Str := (["plus", "minus", "holds", "sides", "moved", "all_steps", "rings", "each_near", "_law_deck", "_law_draw", "_law_bag", "_law_side", "_law_trade", "_law_market", "_law_any_market", "_law_plus"] : List Str) ++ (["_law_less", "_law_holds", "_law_behind", "_law_around", "_law_rings"] : List Str)
theorem run (w : World) : HandSHeadRun.RunEq R (PySem.W.view R.prog [24]) hk ob 4000 loose w := by
  intro os
  kernel_rfl
end G_k03
namespace LB
open PySem PySem.Spec PyProof.Rows L2 DL PySem.W
theorem draw_ok {t : Nat} {R S : Store} {many : Int} {Q : MK DV} {E : MX} (D : Dk t R S) (hm : 0 < many) (hm2 : many < 2 ^ 80) (ht : t < 1099511627776) (q : ∀ S' d, Dk (t + 1) R S' → 0 ≤ d → d < many → Q (.int d) S') : m__law_draw [.ref 1, .int many] S Q E := by
  obtain ⟨cells, rests, rfl, hl, h0⟩ := D
  have hk : t % cells.length < cells.length := Nat.mod_lt _ h0
  have hlog : many.natAbs.log2 < 9000 := by
    have h1 : many.natAbs < 2 ^ 80 := by omega
    have h2 : many.natAbs.log2 < 80 := by
      rw [Nat.log2_lt (by omega)]
      exact h1
    omega
  have em : ((t : Int) % (cells.length : Int)) = ((t % cells.length : Nat) : Int) := by omega
  have e2 : ixN (0 + 1 + 1 + 1) 1 = some 1 := rfl
  have e3 : atI (intsV rests) ((t % cells.length : Nat) : Int) = some (.int (rests.getD (t % cells.length) 0)) := atI_ints (by omega)
  have e4 : atI (intsV cells) ((t % cells.length : Nat) : Int) = some (.int (cells.getD (t % cells.length) 0)) := atI_ints hk
  have e5 : ixN rests.length ((t % cells.length : Nat) : Int) = some (t % cells.length) := ixN_of (by omega)
  have done : ∀ (rests' : List Int) (d : Int), rests'.length = rests.length → 0 ≤ d → d < many → Q (.int d) (some (.lst (intsV rests')) :: some (.lst [.lst (intsV cells), .int ((t : Int) + 1), .ref 0]) :: R) := fun rests' d e h1 h2 => q _ d ⟨cells, rests', by rw [show ((t + 1 : Nat) : Int) = (t : Int) + 1 by omega], by omega, h0⟩ h1 h2
  generalize t % cells.length = k at *
  generalize hc : cells.getD k 0 = c at *
  simp only [app4 m__law_draw_e, app3 b__law_draw_e, app3 r__law_draw_1_e, app3 r__law_draw_2_e, app3 r__law_draw_3_e, app3 r__law_draw_4_e, app3 r__law_draw_5_e, app3 r__law_draw_6_e, app3 r__law_draw_7_e, app3 r__law_draw_8_e, mBody, startD, mNext, mSeq, mExpr, mRet, mRetN, mIfS, mBreak, mCont, mSet, mAsg, mPar2, mPar3, mVar, mC, mOp, mUn, mChain, mT, mAnd, mOr, mNot, mAndV, mOrV, mNotV, mIf, mNil, mCons, mTup, mLst, mLstO, mDct, mCall, mCallF, mPN, mPS, mSl, mFor, iR1, iR2, iZ, iE, iS, mLc, mLcO, mYes, gTg, gUnL, gUn, gSetL, slot, seqD, bindT, bindTs, fIx, fSl, fRev, fAdd, fSub, fMul, fDiv, fMod, fPow, fNeg, fLe, fGt, fGe, fEq, gLen, gInt, gBool, gStr, gList, gTuple, gSum, gSumB, gRepr, List.map_cons, List.map_nil, List.length_cons, List.length_nil, List.cons_append, List.nil_append, List.set_cons_zero, List.set_cons_succ, List.getElem?_cons_zero, List.getElem?_cons_succ, List.replicate, intsV_len, em, e2, e3, e4, e5]
  refine ⟨fun ⟨_, h⟩ => (nomatch h), by omega, ?_⟩
  generalize hb : decide (0 < rests.getD k 0) = b
  cases b with
  | true =>
    simp only [e3, e5, intsV_len, List.map_cons, List.map_nil, List.length_cons, List.length_nil, List.cons_append, List.nil_append, List.set_cons_zero, List.set_cons_succ, List.getElem?_cons_zero, List.getElem?_cons_succ, List.replicate]
    exact ⟨hm, hm, hlog, by
      rw [intsV_set]
      exact done _ _ (List.length_set ..) (Int.emod_nonneg _ (by omega)) (Int.emod_lt_of_pos _ hm)⟩
  | false =>
    simp only [e4, List.map_cons, List.map_nil, List.length_cons, List.length_nil, List.cons_append, List.nil_append, List.set_cons_zero, List.set_cons_succ, List.getElem?_cons_zero, List.getElem?_cons_succ, List.replicate]
    have b1 := Int.emod_nonneg c (show (2147483543 : Int) ≠ 0 by omega)
    have b2 := Int.emod_lt_of_pos c (show (0 : Int) < 2147483543 by omega)
    generalize c % 2147483543 = u at *
    have b3 := Int.emod_nonneg ((u + 75979 * (t : Int) + 4481) ^ (3 : Int).toNat) (show (2147483497 : Int) ≠ 0 by omega)
    have b4 := Int.emod_lt_of_pos ((u + 75979 * (t : Int) + 4481) ^ (3 : Int).toNat) (show (0 : Int) < 2147483497 by omega)
    have p1 : (u + 75979 * (t : Int) + 4481).natAbs < 2 ^ 64 := by omega
    generalize (u + 75979 * (t : Int) + 4481) ^ (3 : Int).toNat % 2147483497 = v at *
    have b5 := Int.emod_nonneg ((v + 7919 * (t : Int) + 13) ^ (3 : Int).toNat) (show (2147483423 : Int) ≠ 0 by omega)
    have b6 := Int.emod_lt_of_pos ((v + 7919 * (t : Int) + 13) ^ (3 : Int).toNat) (show (0 : Int) < 2147483423 by omega)
    have p2 : (v + 7919 * (t : Int) + 13).natAbs < 2 ^ 64 := by omega
    generalize (v + 7919 * (t : Int) + 13) ^ (3 : Int).toNat % 2147483423 = w at *
    exact ⟨by omega, mulOk_s (by omega) (by omega), by omega, by omega, p1, by omega, mulOk_s (by omega) (by omega), by omega, by omega, p2, by omega, mulOk_s (by omega) (by omega), by omega, hm, done _ _ rfl (Int.emod_nonneg _ (by omega)) (Int.emod_lt_of_pos _ hm)⟩
theorem deck_ok {ns : List Int} {Q : MK DV} {E : MX} (hn : ns.length ≤ 63) (q : ∀ S', Dk 0 [] S' → Q (.ref 1) S') : m__law_deck [.frz (intsV ns)] [] Q E := by
  have fin : ∀ (cells : List Int) (Qf : MK (List DV)), cells.length ≤ 64 → (∀ r : List Int, r.length = cells.length → Qf (intsV r) []) → lcGo (.nm 2) mYes (mOp fMul (mVar 2) (mCall gInt (mCons (mOp fGe (mVar 2) (mOp fPow (mC (.int 10)) (mC (.int 18)))) mNil))) [some (.frz (intsV ns)), some (.lst (intsV cells)), none] (intsV cells) [] [] Qf := by
    intro cells Qf h64 hq
    refine lcGo_ind (fun xs acc S => S = [] ∧ ∃ r rs, acc = intsV r ∧ xs = intsV rs ∧ r.length + rs.length = cells.length) ?hn ?hs (intsV cells) [] [] ⟨rfl, [], cells, rfl, rfl, by simp⟩
    case hn =>
      intro acc S ⟨e1, r, rs, e2, e3, e4⟩
      subst e1 e2
      cases rs with
      | nil => exact hq r (by simpa using e4)
      | cons a b => exact nomatch (show ([] : List DV) = .int a :: intsV b from e3)
    case hs =>
      intro x xs acc S ⟨e1, r, rs, e2, e3, e4⟩ ih
      cases rs with
      | nil => exact nomatch (show x :: xs = [] from e3)
      | cons a rs =>
        have e3' : x :: xs = .int a :: intsV rs := e3
        injection e3' with e5 e6
        subst e1 e2 e5 e6
        have hl : (intsV r).length < 16777216 := by rw [intsV_len]; simp at e4; omega
        have app : ∀ z : Int, intsV r ++ [DV.int z] = intsV (r ++ [z]) := fun z => intsV_app r [z]
        simp only [lcGo, mBody, startD, mNext, mSeq, mExpr, mRet, mRetN, mIfS, mBreak, mCont, mSet, mAsg, mPar2, mPar3, mVar, mC, mOp, mUn, mChain, mT, mAnd, mOr, mNot, mAndV, mOrV, mNotV, mIf, mNil, mCons, mTup, mLst, mLstO, mDct, mCall, mCallF, mPN, mPS, mSl, mFor, iR1, iR2, iZ, iE, iS, mLc, mLcO, mYes, gTg, gUnL, gUn, gSetL, slot, seqD, bindT, bindTs, fIx, fSl, fRev, fAdd, fSub, fMul, fDiv, fMod, fPow, fNeg, fLe, fGt, fGe, fEq, gLen, gInt, gBool, gStr, gList, gTuple, gSum, gSumB, gRepr, List.map_cons, List.map_nil, List.length_cons, List.length_nil, List.cons_append, List.nil_append, List.set_cons_zero, List.set_cons_succ, List.getElem?_cons_zero, List.getElem?_cons_succ, List.replicate]
        refine ⟨by omega, by omega, by decide, ?_⟩
        cases decide ((10 : Int) ^ (18 : Int).toNat ≤ a) with
        | true => exact ⟨mulOk_r (by decide) (by decide), hl, ih _ _ ⟨rfl, r ++ [a * 1], rs, app _, rfl, by simp at e4 ⊢; omega⟩⟩
        | false => exact ⟨mulOk_r (by decide) (by decide), hl, ih _ _ ⟨rfl, r ++ [a * 0], rs, app _, rfl, by simp at e4 ⊢; omega⟩⟩
  simp only [app4 m__law_deck_e, app3 b__law_deck_e, app3 r__law_deck_1_e, mBody, startD, mNext, mSeq, mExpr, mRet, mRetN, mIfS, mBreak, mCont, mSet, mAsg, mPar2, mPar3, mVar, mC, mOp, mUn, mChain, mT, mAnd, mOr, mNot, mAndV, mOrV, mNotV, mIf, mNil, mCons, mTup, mLst, mLstO, mDct, mCall, mCallF, mPN, mPS, mSl, mFor, iR1, iR2, iZ, iE, iS, mLc, mLcO, mYes, gTg, gUnL, gUn, gSetL, slot, seqD, bindT, bindTs, fIx, fSl, fRev, fAdd, fSub, fMul, fDiv, fMod, fPow, fNeg, fLe, fGt, fGe, fEq, gLen, gInt, gBool, gStr, gList, gTuple, gSum, gSumB, gRepr, List.map_cons, List.map_nil, List.length_cons, List.length_nil, List.cons_append, List.nil_append, List.set_cons_zero, List.set_cons_succ, List.getElem?_cons_zero, List.getElem?_cons_succ, List.replicate, cut63 ns hn]
  cases ns with
  | nil => exact ⟨by decide, by decide, by decide, by decide, by decide, fin [0] _ (by decide) fun r hr => ⟨by decide, q _ ⟨[0], r, rfl, hr, by decide⟩⟩⟩
  | cons a b =>
    have e0 : decide (((intsV (a :: b)).length : Int) = 0) = false := decide_eq_false (by rw [intsV_len]; simp; omega)
    have e1 : (List.replicate (if (false = true) then (1 : Int) else 0).toNat [DV.int 0]).flatten = [] := rfl
    simp only [e0, e1, List.append_nil]
    exact ⟨by decide, by decide, by decide, by decide, by rw [intsV_len]; simp only [List.length_nil]; omega, fin (a :: b) _ (by omega) fun r hr => ⟨by decide, q _ ⟨a :: b, r, rfl, hr, by simp⟩⟩⟩
theorem one_ok {t : Nat} {R S : Store} {ds : List DV} {Q : MK DV} {E : MX} (D : Dk t R S) (h0 : 0 < ds.length) (h1 : ds.length < 2 ^ 32) (ht : t < 1099511627776) (q : ∀ S' d, Dk (t + 1) R S' → d ∈ ds → Q d S') : m__law_one [.ref 1, .lst ds] S Q E := by
  simp only [app4 m__law_one_e, app3 b__law_one_e, mBody, startD, mNext, mSeq, mExpr, mRet, mRetN, mIfS, mBreak, mCont, mSet, mAsg, mPar2, mPar3, mVar, mC, mOp, mUn, mChain, mT, mAnd, mOr, mNot, mAndV, mOrV, mNotV, mIf, mNil, mCons, mTup, mLst, mLstO, mDct, mCall, mCallF, mPN, mPS, mSl, mFor, iR1, iR2, iZ, iE, iS, mLc, mLcO, mYes, gTg, gUnL, gUn, gSetL, slot, seqD, bindT, bindTs, fIx, fSl, fRev, fAdd, fSub, fMul, fDiv, fMod, fPow, fNeg, fLe, fGt, fGe, fEq, gLen, gInt, gBool, gStr, gList, gTuple, gSum, gSumB, gRepr, List.map_cons, List.map_nil, List.length_cons, List.length_nil, List.cons_append, List.nil_append, List.set_cons_zero, List.set_cons_succ, List.getElem?_cons_zero, List.getElem?_cons_succ, List.replicate]
  refine ⟨trivial, draw_ok D (by omega) (by omega) ht fun S' d D' h1 h2 => ?_⟩
  obtain ⟨k, rfl⟩ := Int.eq_ofNat_of_zero_le h1
  have hk : k < ds.length := by omega
  have e : atI ds (k : Int) = some ds[k] := by rw [DL.atI_at, List.getElem?_eq_getElem hk]
  simp only [e]
  exact q S' _ D' (List.getElem_mem hk)
theorem bag_ok {t : Nat} {R S : Store} {g : Nat} {most : Int} {Q : MK DV} {E : MX} (D : Dk t R S) (hg : g ≤ 1000) (hm : 0 ≤ most) (hm2 : most < 2 ^ 79) (ht : t + g < 1099511627776) (q : ∀ S' (xs : List Int), Dk (t + g) R S' → xs.length = g → (∀ x ∈ xs, 0 ≤ x ∧ x ≤ most) → Q (.tup (intsV xs)) S') : m__law_bag [.ref 1, .int g, .int most] S Q E := by
  simp only [app4 m__law_bag_e, app3 b__law_bag_e, mBody, startD, mNext, mSeq, mExpr, mRet, mRetN, mIfS, mBreak, mCont, mSet, mAsg, mPar2, mPar3, mVar, mC, mOp, mUn, mChain, mT, mAnd, mOr, mNot, mAndV, mOrV, mNotV, mIf, mNil, mCons, mTup, mLst, mLstO, mDct, mCall, mCallF, mPN, mPS, mSl, mFor, iR1, iR2, iZ, iE, iS, mLc, mLcO, mYes, gTg, gUnL, gUn, gSetL, slot, seqD, bindT, bindTs, fIx, fSl, fRev, fAdd, fSub, fMul, fDiv, fMod, fPow, fNeg, fLe, fGt, fGe, fEq, gLen, gInt, gBool, gStr, gList, gTuple, gSum, gSumB, gRepr, List.map_cons, List.map_nil, List.length_cons, List.length_nil, List.cons_append, List.nil_append, List.set_cons_zero, List.set_cons_succ, List.getElem?_cons_zero, List.getElem?_cons_succ, List.replicate, Int.toNat_natCast]
  refine ⟨by omega, by omega, ?_⟩
  refine lcGo_ind (fun xs acc S' => xs.length ≤ g ∧ Dk (t + g - xs.length) R S' ∧ ∃ ys : List Int, acc = intsV ys ∧ ys.length + xs.length = g ∧ ∀ x ∈ ys, 0 ≤ x ∧ x ≤ most) ?hn ?hs _ _ _ ⟨by rw [rngD_len]; omega, by rw [rngD_len]; simpa using D, [], rfl, by rw [rngD_len]; simp, by simp⟩
  case hn =>
    rintro acc S' ⟨_, D', ys, rfl, e, b⟩
    exact q S' ys (by simpa using D') (by simpa using e) b
  case hs =>
    rintro x xs acc S' ⟨hl, D', ys, rfl, e, b⟩ ih
    rw [List.length_cons] at hl e
    rw [List.length_cons] at D'
    simp only [lcGo, wipeD, mBody, startD, mNext, mSeq, mExpr, mRet, mRetN, mIfS, mBreak, mCont, mSet, mAsg, mPar2, mPar3, mVar, mC, mOp, mUn, mChain, mT, mAnd, mOr, mNot, mAndV, mOrV, mNotV, mIf, mNil, mCons, mTup, mLst, mLstO, mDct, mCall, mCallF, mPN, mPS, mSl, mFor, iR1, iR2, iZ, iE, iS, mLc, mLcO, mYes, gTg, gUnL, gUn, gSetL, slot, seqD, bindT, bindTs, fIx, fSl, fRev, fAdd, fSub, fMul, fDiv, fMod, fPow, fNeg, fLe, fGt, fGe, fEq, gLen, gInt, gBool, gStr, gList, gTuple, gSum, gSumB, gRepr, List.map_cons, List.map_nil, List.length_cons, List.length_nil, List.cons_append, List.nil_append, List.set_cons_zero, List.set_cons_succ, List.getElem?_cons_zero, List.getElem?_cons_succ, List.replicate]
    refine ⟨trivial, draw_ok D' (by omega) (by omega) (by omega) fun S2 d D2 h1 h2 => ?_⟩
    refine ⟨by rw [intsV_len]; omega, ih _ _ ⟨by omega, ?_, ys ++ [d], intsV_app ys [d], by simp; omega, ?_⟩⟩
    · have e3 : t + g - (xs.length + 1) + 1 = t + g - xs.length := by omega
      rw [e3] at D2
      exact D2
    · intro z hz
      rcases List.mem_append.mp hz with hz | hz
      · exact b z hz
      · have : z = d := by simpa using hz
        omega
theorem rep_zero (n : Nat) : (List.replicate n [DV.int 0]).flatten = intsV (List.replicate n 0) := by
  induction n with
  | zero => rfl
  | succ n ih =>
    rw [List.replicate_succ, List.flatten_cons, ih, List.replicate_succ]
    rfl
/-- the store has the deck and a list behind all others -/
theorem dk_snoc {t : Nat} {R S : Store} {d : DO} (D : Dk t R S) : Dk t (R ++ [some d]) (S ++ [some d]) := by
  obtain ⟨cells, rests, rfl, h1, h2⟩ := D
  exact ⟨cells, rests, rfl, h1, h2⟩
theorem dk_len {t : Nat} {R S : Store} (D : Dk t R S) : S.length = R.length + 2 := by
  obtain ⟨cells, rests, rfl, h1, h2⟩ := D
  rfl
theorem dk_last {t : Nat} {R S : Store} {d : DO} (D : Dk t (R ++ [some d]) S) : S[R.length + 2]? = some (some d) := by
  obtain ⟨cells, rests, rfl, h1, h2⟩ := D
  simp
theorem dk_set {t : Nat} {R S : Store} {d e : DO} (D : Dk t (R ++ [some d]) S) : Dk t (R ++ [some e]) (S.set (R.length + 2) (some e)) := by
  obtain ⟨cells, rests, rfl, h1, h2⟩ := D
  refine ⟨cells, rests, ?_, h1, h2⟩
  simp [List.set_append]
theorem gSetL_e {a i : ME} {d : DV} {δ : DEnv} {S : Store} {Q : DEnv → Store → Prop} {p : Nat} {j : Int} {ds : List DV} {n : Nat} {S2 : Store} (ha : ∀ Qc : MK DV, Qc (.ref p) S → a δ S Qc noE) (hi : ∀ Qc : MK DV, Qc (.int j) S2 → i δ S Qc noE) (hs : S2[p]? = some (some (.lst ds))) (hn : ixN ds.length j = some n) (q : Q δ (S2.set p (some (.lst (ds.set n d))))) : gSetL a i d δ S Q := by
  refine ha _ (hi _ ?_)
  simp only [hs, hn]
  exact q
def In0 (a : List Int) : Prop := ∀ x ∈ a, 0 ≤ x ∧ x ≤ 3
theorem sum_set : ∀ {a : List Int} {k : Nat} {z : Int}, k < a.length → (a.set k z).sum = a.sum - a.getD k 0 + z
  | [], k, z, h => by simp at h
  | x :: a, 0, z, h => by simp; omega
  | x :: a, k + 1, z, h => by
    have ih := sum_set (a := a) (k := k) (z := z) (by simpa using h)
    simp only [List.set_cons_succ, List.sum_cons, List.getD_cons_succ, ih]
    omega
theorem in0_set {a : List Int} {k : Nat} {z : Int} (h : In0 a) (h0 : 0 ≤ z) (h1 : z ≤ 3) : In0 (a.set k z) := fun x hx => by
  rcases List.mem_or_eq_of_mem_set hx with hx | rfl
  · exact h x hx
  · exact ⟨h0, h1⟩
theorem ref_ix {p : Nat} {i : Int} {S : Store} {Q : MK DV} {ds : List DV} (h : S[p]? = some (some (.lst ds))) : fIx (.ref p) (.int i) S Q = onSome (atI ds i) S Q := by
  show (match (match S[p]? with
    | some (some (DO.lst ds)) => some ds
    | _ => none) with
    | some ds => (match atI ds i with
      | some e => Q e S
      | none => False)
    | none => False) = _
  rw [h]
  rfl
theorem ref_tuple {p : Nat} {S : Store} {Q : MK DV} {ds : List DV} (h : S[p]? = some (some (.lst ds))) : gTuple [.ref p] S Q = Q (.tup ds) S := by
  show (match (match S[p]? with
    | some (some (DO.lst ds)) => some ds
    | _ => none) with
    | some ds => Q (.tup ds) S
    | none => False) = _
  rw [h]
theorem side_ok {t g : Nat} {R S : Store} {most : Int} {Q : MK DV} {E : MX} (D : Dk t R S) (hg0 : 0 < g) (hg : g ≤ 100) (hm : 0 ≤ most) (hm2 : most ≤ 100) (ht : t ≤ 100000000)
    (q : ∀ S' (xs : List Int) R' t', Dk t' R' S' → R <+: R' → t' ≤ t + 200 → xs.length = g → In0 xs → xs.sum ≤ most → Q (.tup (intsV xs)) S') : m__law_side [.ref 1, .int g, .int most] S Q E := by
  simp only [app4 m__law_side_e, app3 b__law_side_e, STEPS, true_and, List.map_cons, List.map_nil, List.length_cons, List.length_nil, List.cons_append, List.nil_append, List.set_cons_zero, List.set_cons_succ, List.replicate_zero, List.replicate_succ, fMulO_li, Int.toNat_natCast, rep_zero]
  refine ⟨by omega, by omega, by omega, ?_⟩
  have D1 : Dk t (R ++ [some (.lst (intsV (List.replicate g 0)))]) (S ++ [some (.lst (intsV (List.replicate g 0)))]) := dk_snoc D
  have el : S.length = R.length + 2 := dk_len D
  rw [el]
  simp only [app3 r__law_side_3_e, STEPS, true_and, List.map_cons, List.map_nil, List.length_cons, List.length_nil, List.cons_append, List.nil_append, List.set_cons_zero, List.set_cons_succ, List.replicate_zero, List.replicate_succ]
  refine draw_ok D1 (by omega) (by omega) (by omega) fun S2 n D2 hn0 hn1 => ?_
  obtain ⟨n, rfl⟩ := Int.eq_ofNat_of_zero_le hn0
  simp only [STEPS, true_and, List.map_cons, List.map_nil, List.length_cons, List.length_nil, List.cons_append, List.nil_append, List.set_cons_zero, List.set_cons_succ, List.replicate_zero, List.replicate_succ, Int.toNat_natCast]
  refine ⟨by omega, by omega, ?_⟩
  refine forGo_ind (fun xs δ S' => ∃ (t' : Nat) (row : List Int) (d4 d5 : Option DV), δ = [some (.ref 1), some (.int g), some (.int most), some (.ref (R.length + 2)), d4, d5] ∧ Dk t' (R ++ [some (.lst (intsV row))]) S' ∧ t' + xs.length ≤ t + 1 + n ∧ row.length = g ∧ In0 row ∧ row.sum + xs.length ≤ n) ?hn ?hs _ _ _ ⟨t + 1, List.replicate g 0, _, _, rfl, D2, by rw [rngD_len]; omega, List.length_replicate .., (fun x hx => by have := List.eq_of_mem_replicate hx; omega), ?hsum⟩
  case hsum =>
    rw [rngD_len]
    have : (List.replicate g (0 : Int)).sum = 0 := by simp
    omega
  case hn =>
    rintro δ S' ⟨t', row, d4, d5, rfl, D', h1, h2, h3, h4⟩
    have hs := dk_last D'
    simp only [app3 r__law_side_2_e, STEPS, true_and, List.map_cons, List.map_nil, List.length_cons, List.length_nil, List.cons_append, List.nil_append, List.set_cons_zero, List.set_cons_succ, List.replicate_zero, List.replicate_succ, ref_tuple hs]
    refine q S' row _ t' D' (List.prefix_append _ _) ?_ h2 h3 ?_
    · have : t' + 0 ≤ t + 1 + n := h1
      omega
    · have : row.sum + ((0 : Nat) : Int) ≤ n := h4
      omega
  case hs =>
    rintro x xs δ S' ⟨t', row, d4, d5, rfl, D', h1, h2, h3, h4⟩ ih
    rw [List.length_cons] at h1 h4
    simp only [forGo_c, app3 f__law_side_1_e, STEPS, true_and, List.map_cons, List.map_nil, List.length_cons, List.length_nil, List.cons_append, List.nil_append, List.set_cons_zero, List.set_cons_succ, List.replicate_zero, List.replicate_succ]
    refine draw_ok D' (by omega) (by omega) (by omega) fun S3 at_ D3 ha0 ha1 => ?_
    obtain ⟨k, rfl⟩ := Int.eq_ofNat_of_zero_le ha0
    have hk : k < row.length := by omega
    have hs := dk_last D3
    have ea : atI (intsV row) (k : Int) = some (.int (row.getD k 0)) := atI_ints hk
    simp only [app3 r__law_side_1_e, STEPS, true_and, List.map_cons, List.map_nil, List.length_cons, List.length_nil, List.cons_append, List.nil_append, List.set_cons_zero, List.set_cons_succ, List.replicate_zero, List.replicate_succ, ref_ix hs, ea]
    refine gSetL_e (p := R.length + 2) (j := (k : Int)) (S2 := S3) (n := k) (fun Qc h => ?_) (fun Qc h => ?_) hs (by rw [intsV_len]; exact ixN_of hk) ?_
    · simp only [STEPS, true_and, List.map_cons, List.map_nil, List.length_cons, List.length_nil, List.cons_append, List.nil_append, List.set_cons_zero, List.set_cons_succ, List.replicate_zero, List.replicate_succ]
      exact h
    · simp only [STEPS, true_and, List.map_cons, List.map_nil, List.length_cons, List.length_nil, List.cons_append, List.nil_append, List.set_cons_zero, List.set_cons_succ, List.replicate_zero, List.replicate_succ]
      exact h
    · rw [intsV_set]
      have hv := h3 (row.getD k 0) (by rw [List.getD_eq_getElem?_getD, List.getElem?_eq_getElem hk]; exact List.getElem_mem hk)
      refine ih _ _ ⟨t' + 1, row.set k (row.getD k 0 + if decide (row.getD k 0 < 3) = true then 1 else 0), _, _, rfl, dk_set D3, by omega, by rw [List.length_set]; exact h2, in0_set h3 ?_ ?_, ?_⟩
      · split <;> omega
      · split
        · rename_i h
          have := of_decide_eq_true h
          omega
        · omega
      · rw [sum_set hk]
        split <;> omega
abbrev Rl := List Int × List Int
def rV (r : Rl) : DV := .tup [.tup (intsV r.1), .tup (intsV r.2)]
def rsV (rs : List Rl) : List DV := rs.map rV
def mV (g : Nat) (ts : List Rl) : DV := .tup [.int g, .tup (rsV ts)]
structure GoodT (g : Nat) (most : Int) (r : Rl) : Prop where
  l1 : r.1.length = g
  l2 : r.2.length = g
  a1 : In0 r.1
  a2 : In0 r.2
  s1 : r.1.sum ≤ most
  s2 : r.2.sum ≤ most
theorem zip_ok {S : Store} {te : ME} {δ : DEnv} {i j : Nat} {f : Int → Int → Int} (hte : ∀ (x y : Int) (Q : MK DV), Q (.int (f x y)) S → te ((δ.set i (some (.int x))).set j (some (.int y))) S Q noE) (op : List Int → List Int → List Int)
    (h0 : ∀ b, op [] b = []) (h0' : ∀ a, op a [] = []) (h1 : ∀ x y a b, op (x :: a) (y :: b) = f x y :: op a b) {a b : List Int} (hl : a.length ≤ 1000) {Q : MK (List DV)} (q : Q (intsV (op a b)) S) : lcGo (.tp [.nm i, .nm j]) mYes te δ (pairs (intsV a) (intsV b)) [] S Q := by
  rw [pairs_ints]
  refine lc_m (fun p : Int × Int => DV.tup [.int p.1, .int p.2]) (fun p => DV.int (f p.1 p.2)) _ (by rw [List.length_zip]; omega) (fun p _ => ⟨(δ.set i (some (.int p.1))).set j (some (.int p.2)), rfl, fun Qc h => hte p.1 p.2 Qc h⟩) ?_
  have e : ∀ a b : List Int, intsV (op a b) = (a.zip b).map fun p => DV.int (f p.1 p.2) := by
    intro a
    induction a with
    | nil =>
      intro b
      rw [h0]
      rfl
    | cons x a ih =>
      intro b
      cases b with
      | nil =>
        rw [h0']
        rfl
      | cons y b =>
        rw [h1, List.zip_cons_cons, List.map_cons, ← ih b]
        rfl
  rw [← e]
  exact q
def subI : List Int → List Int → List Int
  | x :: a, y :: b => (x - y) :: subI a b
  | _, _ => []
theorem subI_len : ∀ {a b : List Int}, a.length = b.length → (subI a b).length = a.length
  | [], [], _ => rfl
  | [], _ :: _, e => by simp at e
  | _ :: _, [], e => by simp at e
  | x :: a, y :: b, e => by
    have := subI_len (a := a) (b := b) (by simpa using e)
    simp [subI, this]
theorem addI_0 (b : List Int) : addI [] b = [] := by cases b <;> rfl
theorem addI_n (a : List Int) : addI a [] = [] := by cases a <;> rfl
theorem subI_0 (b : List Int) : subI [] b = [] := by cases b <;> rfl
theorem subI_n (a : List Int) : subI a [] = [] := by cases a <;> rfl
theorem lplus_ok {a b : List Int} {S : Store} {Q : MK DV} {E : MX} (hl : a.length ≤ 1000) (q : Q (.tup (intsV (addI a b))) S) : m__law_plus [.tup (intsV a), .tup (intsV b)] S Q E := by
  simp only [app4 m__law_plus_e, app3 b__law_plus_e, STEPS, true_and, List.map_cons, List.map_nil, List.length_cons, List.length_nil, List.cons_append, List.nil_append, List.set_cons_zero, List.set_cons_succ, List.replicate_zero, List.replicate_succ]
  exact zip_ok (fun x y Q h => by simp only [STEPS, true_and, List.map_cons, List.map_nil, List.length_cons, List.length_nil, List.cons_append, List.nil_append, List.set_cons_zero, List.set_cons_succ, List.replicate_zero, List.replicate_succ]; exact h) addI addI_0 addI_n (fun _ _ _ _ => rfl) hl q
theorem lless_ok {a b : List Int} {S : Store} {Q : MK DV} {E : MX} (hl : a.length ≤ 1000) (q : Q (.tup (intsV (subI a b))) S) : m__law_less [.tup (intsV a), .tup (intsV b)] S Q E := by
  simp only [app4 m__law_less_e, app3 b__law_less_e, STEPS, true_and, List.map_cons, List.map_nil, List.length_cons, List.length_nil, List.cons_append, List.nil_append, List.set_cons_zero, List.set_cons_succ, List.replicate_zero, List.replicate_succ]
  exact zip_ok (fun x y Q h => by simp only [STEPS, true_and, List.map_cons, List.map_nil, List.length_cons, List.length_nil, List.cons_append, List.nil_append, List.set_cons_zero, List.set_cons_succ, List.replicate_zero, List.replicate_succ]; exact h) subI subI_0 subI_n (fun _ _ _ _ => rfl) hl q
/-- so many of one good -/
def besI (g : Nat) (k : Nat) (m : Int) : List Int := (List.range g).map fun i => if i = k then m else 0
theorem besI_len (g k : Nat) (m : Int) : (besI g k m).length = g := by simp [besI]
theorem besI_sum : ∀ (g k : Nat) (m : Int), k < g → (besI g k m).sum = m := by
  have h0 : ∀ (g k : Nat) (m : Int), g ≤ k → (besI g k m).sum = 0 := by
    intro g
    induction g with
    | zero => intro k m h; rfl
    | succ g ih =>
      intro k m h
      have := ih k m (by omega)
      simp only [besI, List.range_succ, List.map_append, List.sum_append] at *
      rw [this]
      simp
      omega
  intro g
  induction g with
  | zero => intro k m h; omega
  | succ g ih =>
    intro k m h
    by_cases e : k = g
    · subst e
      have := h0 k k m (Nat.le_refl _)
      simp only [besI, List.range_succ, List.map_append, List.sum_append] at *
      rw [this]
      simp
    · have := ih k m (by omega)
      simp only [besI, List.range_succ, List.map_append, List.sum_append] at *
      rw [this]
      simp
      omega
theorem besI_mem {g k : Nat} {m x : Int} (h : x ∈ besI g k m) : x = m ∨ x = 0 := by
  simp only [besI, List.mem_map] at h
  obtain ⟨i, _, rfl⟩ := h
  split
  · exact .inl rfl
  · exact .inr rfl
theorem addI_mem : ∀ {a b : List Int} {x : Int}, x ∈ addI a b → ∃ y z, y ∈ a ∧ z ∈ b ∧ x = y + z
  | [], b, x, h => by rw [addI_0] at h; cases h
  | y :: a, [], x, h => by rw [addI_n] at h; cases h
  | y :: a, z :: b, x, h => by
    rcases List.mem_cons.mp (show x ∈ (y + z) :: addI a b from h) with rfl | h
    · exact ⟨y, z, List.mem_cons_self, List.mem_cons_self, rfl⟩
    · obtain ⟨u, v, h1, h2, h3⟩ := addI_mem h
      exact ⟨u, v, List.mem_cons_of_mem _ h1, List.mem_cons_of_mem _ h2, h3⟩
theorem sum_le1 {a : List Int} (h : In0 a) {x : Int} (hx : x ∈ a) : x ≤ a.sum ∧ 0 ≤ a.sum := by
  induction a with
  | nil => cases hx
  | cons y a ih =>
    have hy := h y List.mem_cons_self
    have h' : In0 a := fun z hz => h z (List.mem_cons_of_mem _ hz)
    have h0 : 0 ≤ a.sum := by
      clear ih hx
      induction a with
      | nil => simp
      | cons z a ih =>
        have := h' z List.mem_cons_self
        have := ih (fun w hw => h w (by
          rcases List.mem_cons.mp hw with rfl | hw
          · exact List.mem_cons_self
          · exact List.mem_cons_of_mem _ (List.mem_cons_of_mem _ hw))) (fun w hw => h' w (List.mem_cons_of_mem _ hw))
        simp
        omega
    rw [List.sum_cons]
    rcases List.mem_cons.mp hx with rfl | hx
    · omega
    · have := ih h' hx
      omega
end LB
/-! what stays of a store. -/
namespace LB
open PySem PySem.Spec PyProof.Rows L2 DL PySem.W
/-- all that is kept stays -/
def Lo (lo : Nat → Prop) (S S' : Store) : Prop := S.length ≤ S'.length ∧ ∀ k, lo k → S'[k]? = S[k]?
theorem Lo.refl (lo : Nat → Prop) (S : Store) : Lo lo S S := ⟨Nat.le_refl _, fun _ _ => rfl⟩
theorem Lo.trans {lo : Nat → Prop} {S S' S2 : Store} (h : Lo lo S S') (g : Lo lo S' S2) : Lo lo S S2 := ⟨Nat.le_trans h.1 g.1, fun k hk => (g.2 k hk).trans (h.2 k hk)⟩
theorem Lo.set {lo : Nat → Prop} {i : Nat} (S : Store) (o : Option DO) (h : ¬ lo i) : Lo lo S (S.set i o) := ⟨by simp, fun k hk => by rw [List.getElem?_set_ne (fun z : i = k => h (by rw [z]; exact hk))]⟩
theorem Lo.snoc {lo : Nat → Prop} (S : Store) (o : Option DO) (h : ∀ k, S.length ≤ k → ¬ lo k) : Lo lo S (S ++ [o]) := ⟨by simp, fun k hk => by rw [List.getElem?_append_left (Nat.lt_of_not_le fun z => h k z hk)]⟩
end LB
namespace LB
open PySem PySem.Spec PyProof.Rows L2 DL PySem.W
theorem trade_ok {t g : Nat} {R S : Store} {most : Int} {Q : MK DV} {E : MX} (D : Dk t R S) (hg0 : 0 < g) (hg : g ≤ 100) (hm : 0 ≤ most) (hm2 : most ≤ 4) (ht : t ≤ 10000000)
    (q : ∀ S' r R' t', Dk t' R' S' → R <+: R' → t' ≤ t + 500 → GoodT g most r → Q (rV r) S') : m__law_trade [.ref 1, .int g, .int most] S Q E := by
  have two : ∀ S1 R1 t1, Dk t1 R1 S1 → R <+: R1 → t1 ≤ t + 1 → m__law_side [.ref 1, .int g, .int most] S1 (fun x S2 => m__law_side [.ref 1, .int g, .int most] S2 (fun y S3 => Q (.tup [x, y]) S3) E) E := fun S1 R1 t1 D1 p1 l1 =>
    side_ok D1 hg0 hg hm (by omega) (by omega) fun S2 xs R2 t2 D2 p2 l2 h1 h2 h3 =>
      side_ok D2 hg0 hg hm (by omega) (by omega) fun S3 ys R3 t3 D3 p3 l3 g1 g2 g3 =>
        q S3 (xs, ys) R3 t3 D3 ((p1.trans p2).trans p3) (by omega) ⟨h1, g1, h2, g2, h3, g3⟩
  simp only [app4 m__law_trade_e, app3 b__law_trade_e, STEPS, true_and, List.map_cons, List.map_nil, List.length_cons, List.length_nil, List.cons_append, List.nil_append, List.set_cons_zero, List.set_cons_succ, List.replicate_zero, List.replicate_succ]
  by_cases h3 : most < 3
  · simp only [decide_eq_true h3, STEPS, true_and]
    exact two S R t D (List.prefix_refl R) (by omega)
  · simp only [decide_eq_false h3, STEPS, true_and]
    refine draw_ok D (by omega) (by omega) (by omega) fun S1 d D1 hd0 hd1 => ?_
    by_cases hz : d = 0
    · simp only [decide_eq_true hz, STEPS, true_and]
      exact two S1 R (t + 1) D1 (List.prefix_refl R) (by omega)
    · simp only [decide_eq_false hz, STEPS, true_and, app3 r__law_trade_4_e, List.map_cons, List.map_nil, List.length_cons, List.length_nil, List.cons_append, List.nil_append, List.set_cons_zero, List.set_cons_succ, List.replicate_zero, List.replicate_succ]
      refine draw_ok D1 (by omega) (by omega) (by omega) fun S2 at_ D2 ha0 ha1 => ?_
      obtain ⟨k, rfl⟩ := Int.eq_ofNat_of_zero_le ha0
      refine draw_ok D2 (by omega) (by omega) (by omega) fun S3 e D3 he0 he1 => ?_
      have he2 : 1 + e = 1 ∨ 1 + e = 2 := by omega
      simp only [app3 r__law_trade_3_e, STEPS, true_and, List.map_cons, List.map_nil, List.length_cons, List.length_nil, List.cons_append, List.nil_append, List.set_cons_zero, List.set_cons_succ, List.replicate_zero, List.replicate_succ, Int.toNat_natCast]
      obtain ⟨many, hmany⟩ : ∃ m, m = 1 + e := ⟨_, rfl⟩
      rw [← hmany] at he2 ⊢
      refine ⟨by omega, by omega, ?_⟩
      rw [rng0_eq]
      refine lc_m (fun i : Nat => DV.int i) (fun i => DV.int (if i = k then many else 0)) _ (by simp; omega) (fun i hi => ⟨_, rfl, fun Qc h => ?_⟩) ?_
      · simp only [STEPS, true_and, List.map_cons, List.map_nil, List.length_cons, List.length_nil, List.cons_append, List.nil_append, List.set_cons_zero, List.set_cons_succ, List.replicate_zero, List.replicate_succ]
        by_cases c : i = k
        · subst c
          rw [if_pos rfl] at h
          simp only [decide_true, if_true, Int.mul_one]
          exact ⟨mulOk_r (by decide) (by decide), h⟩
        · rw [if_neg c] at h
          simp only [decide_eq_false (show ¬ (i : Int) = (k : Int) by omega), Bool.false_eq_true, if_false, Int.mul_zero]
          exact ⟨mulOk_r (by decide) (by decide), h⟩
      · have eb : (List.range g).map (fun i => DV.int (if i = k then many else 0)) = intsV (besI g k many) := by
          unfold intsV besI
          rw [List.map_map]
          rfl
        rw [eb]
        simp only [app3 r__law_trade_2_e, STEPS, true_and, List.map_cons, List.map_nil, List.length_cons, List.length_nil, List.cons_append, List.nil_append, List.set_cons_zero, List.set_cons_succ, List.replicate_zero, List.replicate_succ]
        have bm : ∀ x ∈ besI g k many, 0 ≤ x ∧ x ≤ many := fun x hx => by
          rcases besI_mem hx with rfl | rfl <;> omega
        have bs := besI_sum g k many (by omega)
        have bl := besI_len g k many
        refine side_ok D3 hg0 hg (by omega) (by omega) (by omega) fun S4 xs R4 t4 D4 p4 l4 h1 h2 h3' => ?_
        refine side_ok D4 hg0 hg (by omega) (by omega) (by omega) fun S5 ys R5 t5 D5 p5 l5 g1 g2 g3 => ?_
        simp only [app3 r__law_trade_1_e, STEPS, true_and, List.map_cons, List.map_nil, List.length_cons, List.length_nil, List.cons_append, List.nil_append, List.set_cons_zero, List.set_cons_succ, List.replicate_zero, List.replicate_succ]
        have one : ∀ {zs : List Int} {c : Int}, zs.length = g → In0 zs → zs.sum ≤ c → c + many ≤ 3 → c + many ≤ most → (addI zs (besI g k many)).length = g ∧ In0 (addI zs (besI g k many)) ∧ (addI zs (besI g k many)).sum ≤ most := by
          intro zs c z1 z2 z3 z4 z5
          have el : zs.length = (besI g k many).length := by rw [z1, bl]
          refine ⟨by rw [addI_len el, z1], fun x hx => ?_, by rw [addI_sum el, bs]; omega⟩
          obtain ⟨y, z, hy, hz, rfl⟩ := addI_mem hx
          have b1 := bm z hz
          have b2 := z2 y hy
          have b3 := sum_le1 z2 hy
          omega
        have w1 := one (c := 1) h1 h2 h3' (by omega) (by omega)
        by_cases hm1 : many < 2
        · simp only [decide_eq_true hm1, STEPS, true_and]
          have w2 := one (c := 2) g1 g2 g3 (by omega) (by omega)
          refine lplus_ok (by omega) (lplus_ok (by omega) ?_)
          exact q S5 (_, _) R5 t5 D5 (p4.trans p5) (by omega) ⟨w1.1, w2.1, w1.2.1, w2.2.1, w1.2.2, w2.2.2⟩
        · simp only [decide_eq_false hm1, STEPS, true_and]
          refine lplus_ok (by omega) ?_
          exact q S5 (_, _) R5 t5 D5 (p4.trans p5) (by omega) ⟨w1.1, bl, w1.2.1, fun x hx => by have := bm x hx; omega, w1.2.2, by show (besI g k many).sum ≤ most; omega⟩
structure GoodM (g : Nat) (many : Nat) (most : Int) (ts : List Rl) : Prop where
  g0 : 0 < g
  len : ts.length ≤ many
  all : ∀ r ∈ ts, GoodT g most r
theorem market_ok {t g : Nat} {R S : Store} {many : Nat} {most : Int} {Q : MK DV} {E : MX} (D : Dk t R S) (hg0 : 0 < g) (hg : g ≤ 100) (hn : many ≤ 4) (hm : 0 ≤ most) (hm2 : most ≤ 4) (ht : t ≤ 5000000)
    (q : ∀ S' ts R' t', Dk t' R' S' → R <+: R' → t' ≤ t + 3000 → GoodM g many most ts → Q (mV g ts) S') : m__law_market [.ref 1, .int g, .int many, .int most] S Q E := by
  simp only [app4 m__law_market_e, app3 b__law_market_e, STEPS, true_and, List.map_cons, List.map_nil, List.length_cons, List.length_nil, List.cons_append, List.nil_append, List.set_cons_zero, List.set_cons_succ, List.replicate_zero, List.replicate_succ]
  refine draw_ok D (by omega) (by omega) (by omega) fun S1 d D1 hd0 hd1 => ?_
  obtain ⟨n, rfl⟩ := Int.eq_ofNat_of_zero_le hd0
  simp only [STEPS, true_and, List.map_cons, List.map_nil, List.length_cons, List.length_nil, List.cons_append, List.nil_append, List.set_cons_zero, List.set_cons_succ, List.replicate_zero, List.replicate_succ, Int.toNat_natCast]
  refine ⟨by omega, by omega, ?_⟩
  refine lcGo_ind (fun xs acc S' => ∃ ts R' t', acc = rsV ts ∧ Dk t' R' S' ∧ R <+: R' ∧ t' + 500 * xs.length ≤ t + 3000 ∧ ts.length + xs.length = n ∧ ∀ r ∈ ts, GoodT g most r) ?hn ?hs _ _ _ ⟨[], R, t + 1, rfl, D1, List.prefix_refl R, by rw [rngD_len]; omega, by rw [rngD_len]; simp, fun r hr => nomatch hr⟩
  case hn =>
    rintro acc S' ⟨ts, R', t', rfl, D', p, h1, h2, h3⟩
    have h2' : ts.length + 0 = n := h2
    have h1' : t' + 500 * 0 ≤ t + 3000 := h1
    exact q S' ts R' t' D' p (by omega) ⟨hg0, by omega, h3⟩
  case hs =>
    rintro x xs acc S' ⟨ts, R', t', rfl, D', p, h1, h2, h3⟩ ih
    rw [List.length_cons] at h1 h2
    simp only [lcGo_c, STEPS, true_and, List.map_cons, List.map_nil, List.length_cons, List.length_nil, List.cons_append, List.nil_append, List.set_cons_zero, List.set_cons_succ, List.replicate_zero, List.replicate_succ]
    refine trade_ok D' hg0 hg hm hm2 (by omega) fun S2 r R2 t2 D2 p2 l2 gr => ?_
    refine ⟨by unfold rsV; rw [List.length_map]; omega, ih _ _ ⟨ts ++ [r], R2, t2, by unfold rsV; rw [List.map_append]; rfl, D2, p.trans p2, by omega, by rw [List.length_append]; simp; omega, fun z hz => ?_⟩⟩
    rcases List.mem_append.mp hz with hz | hz
    · exact h3 z hz
    · have : z = r := by simpa using hz
      rw [this]
      exact gr
theorem any_market_ok {t : Nat} {R S : Store} {Q : MK DV} {E : MX} (D : Dk t R S) (ht : t ≤ 4000000)
    (q : ∀ S' g ts R' t', Dk t' R' S' → R <+: R' → t' ≤ t + 3001 → g ≤ 4 → GoodM g (if g < 3 then 4 else 5 - g) (if g < 3 then 4 else 3) ts → Q (mV g ts) S') : m__law_any_market [.ref 1] S Q E := by
  simp only [app4 m__law_any_market_e, app3 b__law_any_market_e, STEPS, true_and, List.map_cons, List.map_nil, List.length_cons, List.length_nil, List.cons_append, List.nil_append, List.set_cons_zero, List.set_cons_succ, List.replicate_zero, List.replicate_succ]
  refine draw_ok D (by omega) (by omega) (by omega) fun S1 d D1 hd0 hd1 => ?_
  obtain ⟨k, rfl⟩ := Int.eq_ofNat_of_zero_le hd0
  have eg : (1 : Int) + (k : Int) = ((1 + k : Nat) : Int) := by omega
  simp only [STEPS, true_and, List.map_cons, List.map_nil, List.length_cons, List.length_nil, List.cons_append, List.nil_append, List.set_cons_zero, List.set_cons_succ, List.replicate_zero, List.replicate_succ]
  rw [eg]
  have hg : 0 < 1 + k ∧ 1 + k ≤ 4 := by omega
  obtain ⟨g, hgk⟩ : ∃ g, g = 1 + k := ⟨_, rfl⟩
  rw [← hgk] at hg ⊢
  simp only [app3 r__law_any_market_1_e, STEPS, true_and, List.map_cons, List.map_nil, List.length_cons, List.length_nil, List.cons_append, List.nil_append, List.set_cons_zero, List.set_cons_succ, List.replicate_zero, List.replicate_succ]
  by_cases h3 : g < 3
  · have h3' : ((g : Nat) : Int) < 3 := by omega
    simp only [decide_eq_true h3', STEPS, true_and]
    exact market_ok (many := 4) D1 hg.1 (by omega) (by omega) (by omega) (by omega) (by omega) fun S2 ts R2 t2 D2 p2 l2 gm => q S2 g ts R2 t2 D2 p2 (by omega) hg.2 (by rw [if_pos h3, if_pos h3]; exact gm)
  · have h3' : ¬ ((g : Nat) : Int) < 3 := by omega
    simp only [decide_eq_false h3', STEPS, true_and]
    rw [show (5 : Int) - (g : Int) = ((5 - g : Nat) : Int) by omega]
    exact market_ok (many := 5 - g) D1 hg.1 (by omega) (by omega) (by omega) (by omega) (by omega) fun S2 ts R2 t2 D2 p2 l2 gm => q S2 g ts R2 t2 D2 p2 (by omega) hg.2 (by rw [if_neg h3, if_neg h3]; exact gm)
end LB
namespace LB
open PySem PySem.Spec PyProof.Rows L2 DL
end LB
namespace LB
open PySem PySem.Spec PyProof.Rows L2 DL PySem.W
/-! ### market_error, for all plain values -/
/-- a plain value, as far as it is looked at -/
def pl : DV → Bool
  | .non => true
  | .bl _ => true
  | .int _ => true
  | .str _ => true
  | .tup _ => true
  | .lst _ => true
  | .frz _ => true
  | .dct => true
  | _ => false
mutual
def plA : DV → Bool
  | .non => true
  | .bl _ => true
  | .int _ => true
  | .str _ => true
  | .dct => true
  | .tup ds => decide (ds.length < 8100000) && plAs ds
  | .lst ds => decide (ds.length < 8100000) && plAs ds
  | _ => false
def plAs : List DV → Bool
  | [] => true
  | d :: ds => plA d && plAs ds
end
end LB
namespace LB
open PySem PySem.Spec PyProof.Rows L2 DL PySem.W
def holdI : List Int → List Int → Bool
  | x :: a, y :: b => !(decide (x < y)) && holdI a b
  | _, _ => true
theorem plus_ok {a b : List Int} {S : Store} {Q : MK DV} {E : MX} (hl : a.length ≤ 1000) (q : Q (.tup (intsV (addI a b))) S) : m_plus [.tup (intsV a), .tup (intsV b)] S Q E := by
  simp only [app4 m_plus_e, app3 b_plus_e, STEPS, true_and, List.map_cons, List.map_nil, List.length_cons, List.length_nil, List.cons_append, List.nil_append, List.set_cons_zero, List.set_cons_succ, List.replicate_zero, List.replicate_succ]
  exact zip_ok (fun x y Q h => by simp only [STEPS, true_and, List.map_cons, List.map_nil, List.length_cons, List.length_nil, List.cons_append, List.nil_append, List.set_cons_zero, List.set_cons_succ, List.replicate_zero, List.replicate_succ]; exact h) addI addI_0 addI_n (fun _ _ _ _ => rfl) hl q
theorem minus_ok {a b : List Int} {S : Store} {Q : MK DV} {E : MX} (hl : a.length ≤ 1000) (q : Q (.tup (intsV (subI a b))) S) : m_minus [.tup (intsV a), .tup (intsV b)] S Q E := by
  simp only [app4 m_minus_e, app3 b_minus_e, STEPS, true_and, List.map_cons, List.map_nil, List.length_cons, List.length_nil, List.cons_append, List.nil_append, List.set_cons_zero, List.set_cons_succ, List.replicate_zero, List.replicate_succ]
  exact zip_ok (fun x y Q h => by simp only [STEPS, true_and, List.map_cons, List.map_nil, List.length_cons, List.length_nil, List.cons_append, List.nil_append, List.set_cons_zero, List.set_cons_succ, List.replicate_zero, List.replicate_succ]; exact h) subI subI_0 subI_n (fun _ _ _ _ => rfl) hl q
theorem holds_ok {a b : List Int} {S : Store} {Q : MK DV} {E : MX} (q : Q (.bl (holdI a b)) S) : m_holds [.tup (intsV a), .tup (intsV b)] S Q E := by
  simp only [app4 m_holds_e, app3 b_holds_e, STEPS, true_and, List.map_cons, List.map_nil, List.length_cons, List.length_nil, List.cons_append, List.nil_append, List.set_cons_zero, List.set_cons_succ, List.replicate_zero, List.replicate_succ]
  have gen : ∀ (a b : List Int) {d0 d1 d2 d3 : Option DV} {D : EndsD}, (holdI a b = false → D.rt (.bl false) S) → (∀ d2 d3, holdI a b = true → D.nx [d0, d1, d2, d3] S) → forGo (gTg (.tp [.nm 2, .nm 3])) f_holds_1 D (pairs (intsV a) (intsV b)) [d0, d1, d2, d3] S := by
    intro a
    induction a with
    | nil =>
      intro b d0 d1 d2 d3 D h1 h2
      exact h2 d2 d3 rfl
    | cons x a ih =>
      intro b d0 d1 d2 d3 D h1 h2
      cases b with
      | nil => exact h2 d2 d3 rfl
      | cons y b =>
        show forGo _ _ _ (.tup [.int x, .int y] :: pairs (intsV a) (intsV b)) _ _
        simp only [forGo_c, app3 f_holds_1_e, STEPS, true_and, List.map_cons, List.map_nil, List.length_cons, List.length_nil, List.cons_append, List.nil_append, List.set_cons_zero, List.set_cons_succ, List.replicate_zero, List.replicate_succ]
        by_cases hxy : x < y
        · simp only [decide_eq_true hxy, STEPS, true_and]
          exact h1 (by simp [holdI, hxy])
        · simp only [decide_eq_false hxy, STEPS, true_and]
          have e : holdI (x :: a) (y :: b) = holdI a b := by simp [holdI, hxy]
          rw [e] at h1 h2
          exact ih b h1 h2
  refine gen a b (fun h => ?_) (fun d2 d3 h => ?_)
  · rw [h] at q
    exact q
  · simp only [app3 r_holds_1_e, STEPS, true_and, List.map_cons, List.map_nil, List.length_cons, List.length_nil, List.cons_append, List.nil_append, List.set_cons_zero, List.set_cons_succ, List.replicate_zero, List.replicate_succ]
    rw [h] at q
    exact q
theorem holdI_filt : ∀ a b : List Int, ((a.zip b).filter fun p => decide (p.1 < p.2)).isEmpty = holdI a b
  | [], b => by simp [holdI]
  | _ :: _, [] => by simp [holdI]
  | x :: a, y :: b => by
    rw [List.zip_cons_cons, List.filter_cons]
    by_cases h : x < y
    · simp [h, holdI]
    · simp [h, holdI, ← holdI_filt a b]
theorem lholds_ok {a b : List Int} {S : Store} {Q : MK DV} {E : MX} (hl : a.length ≤ 1000) (q : Q (.bl (holdI a b)) S) : m__law_holds [.tup (intsV a), .tup (intsV b)] S Q E := by
  simp only [app4 m__law_holds_e, app3 b__law_holds_e, STEPS, true_and, List.map_cons, List.map_nil, List.length_cons, List.length_nil, List.cons_append, List.nil_append, List.set_cons_zero, List.set_cons_succ, List.replicate_zero, List.replicate_succ]
  rw [pairs_ints]
  refine lc_fm (fun p : Int × Int => DV.tup [.int p.1, .int p.2]) (fun p => DV.int p.1) (fun p => decide (p.1 < p.2)) _ [] (by rw [List.length_zip]; simp; omega) (fun p _ => ⟨_, rfl, fun Qb h => ?_, fun _ Qc h => ?_⟩) ?_
  · simp only [STEPS, true_and, List.map_cons, List.map_nil, List.length_cons, List.length_nil, List.cons_append, List.nil_append, List.set_cons_zero, List.set_cons_succ, List.replicate_zero, List.replicate_succ]
    exact h
  · simp only [STEPS, true_and, List.map_cons, List.map_nil, List.length_cons, List.length_nil, List.cons_append, List.nil_append, List.set_cons_zero, List.set_cons_succ, List.replicate_zero, List.replicate_succ]
    exact h
  · rw [List.nil_append]
    have e : (((a.zip b).filter fun p => decide (p.1 < p.2)).map fun p : Int × Int => DV.int p.1).isEmpty = holdI a b := by
      rw [← holdI_filt]
      cases (a.zip b).filter fun p => decide (p.1 < p.2) <;> rfl
    rw [e]
    exact q
/-- what a step takes, what it adds -/
def tkS (r : Rl) (b : Bool) : List Int := if b then r.2 else r.1
def ptS (r : Rl) (b : Bool) : List Int := if b then r.1 else r.2
/-- the stock behind a step -/
def aftR (a : List Int) (r : Rl) (b : Bool) : Option (List Int) := if holdI a (tkS r b) then some (addI (subI a (tkS r b)) (ptS r b)) else none
def optV : Option (List Int) → DV
  | some a => .tup (intsV a)
  | none => .non
theorem rsV_at {ts : List Rl} {k : Nat} {r : Rl} (h : ts[k]? = some r) : atI (rsV ts) (k : Int) = some (rV r) := by
  rw [DL.atI_at, rsV, List.getElem?_map, h]
  rfl
theorem behind_ok {ts : List Rl} {a : List Int} {k : Nat} {b : Bool} {r : Rl} {S : Store} {Q : MK DV} {E : MX} (hk : ts[k]? = some r) (hl : a.length ≤ 1000) (q : Q (optV (aftR a r b)) S) : m__law_behind [.tup (rsV ts), .tup (intsV a), .int k, .bl b] S Q E := by
  simp only [app4 m__law_behind_e, app3 b__law_behind_e, STEPS, true_and, List.map_cons, List.map_nil, List.length_cons, List.length_nil, List.cons_append, List.nil_append, List.set_cons_zero, List.set_cons_succ, List.replicate_zero, List.replicate_succ]
  have key : m__law_holds [.tup (intsV a), .tup (intsV (tkS r b))] S (fun x S1 => onBl x fun c => onT c (m__law_less [.tup (intsV a), .tup (intsV (tkS r b))] S1 (fun y S2 => m__law_plus [y, .tup (intsV (ptS r b))] S2 Q E) E) (Q .non S1)) E := by
    refine lholds_ok hl ?_
    unfold aftR at q
    by_cases c : holdI a (tkS r b) = true
    · rw [c]
      rw [if_pos c] at q
      simp only [STEPS, true_and]
      refine lless_ok hl (lplus_ok ?_ q)
      have : ∀ x y : List Int, (subI x y).length ≤ x.length := by
        intro x
        induction x with
        | nil => intro y; rw [subI_0]; simp
        | cons u x ih =>
          intro y
          cases y with
          | nil => rw [subI_n]; simp
          | cons v y => simpa [subI] using ih y
      exact Nat.le_trans (this _ _) hl
    · rw [Bool.not_eq_true] at c
      rw [c]
      rw [if_neg (by rw [c]; exact Bool.false_ne_true)] at q
      simp only [STEPS, true_and]
      exact q
  cases b with
  | true =>
    simp only [STEPS, true_and, rsV_at hk, rV, atI_0, atI_1, List.map_cons, List.map_nil, List.length_cons, List.length_nil, List.cons_append, List.nil_append, List.set_cons_zero, List.set_cons_succ, List.replicate_zero, List.replicate_succ, app3 r__law_behind_1_e]
    exact key
  | false =>
    simp only [STEPS, true_and, rsV_at hk, rV, atI_0, atI_1, List.map_cons, List.map_nil, List.length_cons, List.length_nil, List.cons_append, List.nil_append, List.set_cons_zero, List.set_cons_succ, List.replicate_zero, List.replicate_succ, app3 r__law_behind_1_e]
    exact key
theorem moved_ok {ts : List Rl} {a : List Int} {k : Nat} {b : Bool} {r : Rl} {S : Store} {Q : MK DV} {E : MX} (hk : ts[k]? = some r) (hl : a.length ≤ 1000) (q : Q (optV (aftR a r b)) S) : m_moved [.tup (rsV ts), .tup (intsV a), .tup [.int k, .bl b]] S Q E := by
  simp only [app4 m_moved_e, app3 b_moved_e, STEPS, true_and, List.map_cons, List.map_nil, List.length_cons, List.length_nil, List.cons_append, List.nil_append, List.set_cons_zero, List.set_cons_succ, List.replicate_zero, List.replicate_succ, atI_0, atI_1, rsV_at hk]
  have key : m_holds [.tup (intsV a), .tup (intsV (tkS r b))] S (fun x S1 => onBl x fun c => onT (!c) (Q .non S1) (m_minus [.tup (intsV a), .tup (intsV (tkS r b))] S1 (fun y S2 => m_plus [y, .tup (intsV (ptS r b))] S2 Q E) E)) E := by
    refine holds_ok ?_
    unfold aftR at q
    by_cases c : holdI a (tkS r b) = true
    · rw [c]
      rw [if_pos c] at q
      simp only [STEPS, true_and, Bool.not_true]
      refine minus_ok hl (plus_ok ?_ q)
      have : ∀ x y : List Int, (subI x y).length ≤ x.length := by
        intro x
        induction x with
        | nil => intro y; rw [subI_0]; simp
        | cons u x ih =>
          intro y
          cases y with
          | nil => rw [subI_n]; simp
          | cons v y => simpa [subI] using ih y
      exact Nat.le_trans (this _ _) hl
    · rw [Bool.not_eq_true] at c
      rw [c]
      rw [if_neg (by rw [c]; exact Bool.false_ne_true)] at q
      simp only [STEPS, true_and, Bool.not_false]
      exact q
  simp only [app4 m_sides_e, app3 b_sides_e, STEPS, true_and, List.map_cons, List.map_nil, List.length_cons, List.length_nil, List.cons_append, List.nil_append, List.set_cons_zero, List.set_cons_succ, List.replicate_zero, List.replicate_succ, rV]
  cases b with
  | true =>
    simp only [STEPS, true_and, atI_0, atI_1, List.map_cons, List.map_nil, List.length_cons, List.length_nil, List.cons_append, List.nil_append, List.set_cons_zero, List.set_cons_succ, List.replicate_zero, List.replicate_succ, app3 r_moved_2_e, app3 r_moved_1_e]
    exact key
  | false =>
    simp only [STEPS, true_and, atI_0, atI_1, List.map_cons, List.map_nil, List.length_cons, List.length_nil, List.cons_append, List.nil_append, List.set_cons_zero, List.set_cons_succ, List.replicate_zero, List.replicate_succ, app3 r_moved_2_e, app3 r_moved_1_e]
    exact key
end LB
/-! search in breadth: plain mathematics of steps, walks and distances. -/
namespace LB
open PySem PySem.Spec PyProof.Rows L2 DL PySem.W
abbrev Mv := Nat × Bool
def aft (ts : List Rl) (a : List Int) (m : Mv) : Option (List Int) := match ts[m.1]? with
  | some r => aftR a r m.2
  | none => none
def mvs (n : Nat) : List Mv := (List.range n).flatMap fun k => [(k, false), (k, true)]
def nbrs (ts : List Rl) (a : List Int) : List (List Int) := (mvs ts.length).filterMap (aft ts a)
def Gd (g : Nat) (ts : List Rl) : Prop := ∀ r ∈ ts, r.1.length = g ∧ r.2.length = g
theorem mem_mvs {n : Nat} {m : Mv} : m ∈ mvs n ↔ m.1 < n := by
  unfold mvs
  rw [List.mem_flatMap]
  obtain ⟨k, b⟩ := m
  constructor
  · rintro ⟨j, hj, h⟩
    have hj := List.mem_range.mp hj
    simp only [List.mem_cons, List.not_mem_nil, or_false] at h
    rcases h with h | h <;> cases h <;> exact hj
  · intro h
    exact ⟨k, List.mem_range.mpr h, by cases b <;> simp⟩
theorem mvs_len (n : Nat) : (mvs n).length = 2 * n := by
  induction n with
  | zero => rfl
  | succ n ih =>
    unfold mvs at ih ⊢
    rw [List.range_succ, List.flatMap_append, List.length_append, ih]
    simp
    omega
theorem aft_lt {ts : List Rl} {a c : List Int} {m : Mv} (h : aft ts a m = some c) : m.1 < ts.length := by
  unfold aft at h
  split at h
  · rename_i r e
    exact (List.getElem?_eq_some_iff.mp e).1
  · cases h
theorem mem_nbrs {ts : List Rl} {a b : List Int} : b ∈ nbrs ts a ↔ ∃ m, aft ts a m = some b := by
  unfold nbrs
  rw [List.mem_filterMap]
  exact ⟨fun ⟨m, _, h⟩ => ⟨m, h⟩, fun ⟨m, h⟩ => ⟨m, mem_mvs.mpr (aft_lt h), h⟩⟩
theorem nbrs_len (ts : List Rl) (a : List Int) : (nbrs ts a).length ≤ 2 * ts.length := by
  unfold nbrs
  exact Nat.le_trans (List.length_filterMap_le _ _) (Nat.le_of_eq (mvs_len _))
theorem step_back : ∀ {a t p : List Int}, a.length = t.length → a.length = p.length → holdI a t = true → holdI (addI (subI a t) p) p = true ∧ addI (subI (addI (subI a t) p) p) t = a
  | [], [], [], _, _, _ => ⟨rfl, rfl⟩
  | x :: a, y :: t, z :: p, h1, h2, h => by
    have h1' : a.length = t.length := by simpa using h1
    have h2' : a.length = p.length := by simpa using h2
    have hh : (!(decide (x < y)) && holdI a t) = true := h
    rw [Bool.and_eq_true, Bool.not_eq_true', decide_eq_false_iff_not] at hh
    obtain ⟨e1, e2⟩ := step_back h1' h2' hh.2
    refine ⟨?_, ?_⟩
    · show (!(decide (x - y + z < z)) && holdI (addI (subI a t) p) p) = true
      rw [e1, decide_eq_false (by omega)]
      rfl
    · show (x - y + z - z + y) :: addI (subI (addI (subI a t) p) p) t = x :: a
      rw [e2, show x - y + z - z + y = x by omega]
  | [], _ :: _, _, h1, _, _ => by simp at h1
  | _ :: _, [], _, h1, _, _ => by simp at h1
  | [], [], _ :: _, _, h2, _ => by simp at h2
  | _ :: _, _ :: _, [], _, h2, _ => by simp at h2
section
variable {ts : List Rl} {g : Nat} {a b c : List Int} {m : Mv}
theorem aft_len (G : Gd g ts) (h : a.length = g) (e : aft ts a m = some c) : c.length = g := by
  unfold aft at e
  split at e
  · rename_i r er
    obtain ⟨l1, l2⟩ := G r (List.mem_of_getElem? er)
    unfold aftR at e
    split at e
    · cases e
      have lt : (tkS r m.2).length = g := by unfold tkS; split <;> assumption
      have lp : (ptS r m.2).length = g := by unfold ptS; split <;> assumption
      have ls : (subI a (tkS r m.2)).length = a.length := subI_len (by rw [h, lt])
      rw [addI_len (by rw [ls, h, lp]), ls, h]
    · cases e
  · cases e
theorem aft_back (G : Gd g ts) (h : a.length = g) (e : aft ts a m = some c) : aft ts c (m.1, !m.2) = some a := by
  unfold aft at e ⊢
  split at e
  · rename_i r er
    obtain ⟨l1, l2⟩ := G r (List.mem_of_getElem? er)
    show (match ts[m.1]? with
      | some r => aftR c r (!m.2)
      | none => none) = some a
    rw [er]
    show aftR c r (!m.2) = some a
    unfold aftR at e ⊢
    split at e
    · rename_i hh
      cases e
      have lt : (tkS r m.2).length = g := by unfold tkS; split <;> assumption
      have lp : (ptS r m.2).length = g := by unfold ptS; split <;> assumption
      have et : tkS r (!m.2) = ptS r m.2 := by unfold tkS ptS; cases m.2 <;> rfl
      have ep : ptS r (!m.2) = tkS r m.2 := by unfold tkS ptS; cases m.2 <;> rfl
      obtain ⟨e1, e2⟩ := step_back (t := tkS r m.2) (p := ptS r m.2) (h.trans lt.symm) (h.trans lp.symm) hh
      rw [et, ep, if_pos e1, e2]
    · cases e
  · cases e
theorem nbr_len (G : Gd g ts) (h : a.length = g) (e : b ∈ nbrs ts a) : b.length = g := by
  obtain ⟨m, e⟩ := mem_nbrs.mp e
  exact aft_len G h e
theorem nbr_back (G : Gd g ts) (h : a.length = g) (e : b ∈ nbrs ts a) : a ∈ nbrs ts b := by
  obtain ⟨m, e⟩ := mem_nbrs.mp e
  exact mem_nbrs.mpr ⟨_, aft_back G h e⟩
end
/-! ### walks -/
def Wk (ts : List Rl) : Nat → List Int → List Int → Prop
  | 0, a, b => a = b
  | n + 1, a, b => ∃ c, c ∈ nbrs ts a ∧ Wk ts n c b
section
variable {ts : List Rl} {g : Nat}
theorem wk_len (G : Gd g ts) : ∀ {n : Nat} {a b : List Int}, a.length = g → Wk ts n a b → b.length = g
  | 0, a, b, h, e => by
    cases (show a = b from e)
    exact h
  | n + 1, a, b, h, ⟨c, h1, h2⟩ => wk_len G (nbr_len G h h1) h2
theorem wk_snoc : ∀ {n : Nat} {a c b : List Int}, Wk ts n a c → b ∈ nbrs ts c → Wk ts (n + 1) a b
  | 0, a, c, b, e, h => by
    cases (show a = c from e)
    exact ⟨b, h, rfl⟩
  | n + 1, a, c, b, ⟨d, h1, h2⟩, h => ⟨d, h1, wk_snoc h2 h⟩
theorem wk_last : ∀ {n : Nat} {a b : List Int}, Wk ts (n + 1) a b → ∃ c, Wk ts n a c ∧ b ∈ nbrs ts c
  | 0, a, b, ⟨d, h1, h2⟩ => by
    cases (show d = b from h2)
    exact ⟨a, rfl, h1⟩
  | n + 1, a, b, ⟨d, h1, h2⟩ => by
    obtain ⟨c, g1, g2⟩ := wk_last h2
    exact ⟨c, ⟨d, h1, g1⟩, g2⟩
theorem wk_rev (G : Gd g ts) : ∀ {n : Nat} {a b : List Int}, a.length = g → Wk ts n a b → Wk ts n b a
  | 0, a, b, h, e => (show a = b from e).symm
  | n + 1, a, b, h, ⟨c, h1, h2⟩ => wk_snoc (wk_rev G (nbr_len G h h1) h2) (nbr_back G h h1)
/-- distance just d from s -/
def Ds (ts : List Rl) (s : List Int) (d : Nat) (x : List Int) : Prop := Wk ts d s x ∧ ∀ e, e < d → ¬ Wk ts e s x
theorem ds_of {s x : List Int} : ∀ {n : Nat}, Wk ts n s x → ∃ d, d ≤ n ∧ Ds ts s d x := by
  intro n
  induction n using Nat.strongRecOn with
  | _ n ih =>
    intro h
    by_cases hc : ∃ e, e < n ∧ Wk ts e s x
    · obtain ⟨e, he, hw⟩ := hc
      obtain ⟨d, hd, hD⟩ := ih e he hw
      exact ⟨d, by omega, hD⟩
    · exact ⟨n, Nat.le_refl _, h, fun e he hw => hc ⟨e, he, hw⟩⟩
theorem ds_0 {s x : List Int} : Ds ts s 0 x ↔ x = s := ⟨fun h => (show s = x from h.1).symm, fun h => ⟨h.symm, fun e he => absurd he (Nat.not_lt_zero _)⟩⟩
theorem ds_succ {s x : List Int} {d : Nat} : Ds ts s (d + 1) x ↔ (∃ y, Ds ts s d y ∧ x ∈ nbrs ts y) ∧ ¬ ∃ e, e ≤ d ∧ Ds ts s e x := by
  constructor
  · rintro ⟨h1, h2⟩
    refine ⟨?_, fun ⟨e, he, hD⟩ => h2 e (by omega) hD.1⟩
    obtain ⟨y, g1, g2⟩ := wk_last h1
    exact ⟨y, ⟨g1, fun e he hw => h2 (e + 1) (by omega) (wk_snoc hw g2)⟩, g2⟩
  · rintro ⟨⟨y, hy, hx⟩, hn⟩
    refine ⟨wk_snoc hy.1 hx, fun e he hw => ?_⟩
    obtain ⟨d', h1, h2⟩ := ds_of hw
    exact hn ⟨d', by omega, h2⟩
end
/-! ### one turn: what is new -/
def add1 (p : List (List Int) × List (List Int)) (x : List Int) : List (List Int) × List (List Int) := if x ∈ p.1 then p else (p.1 ++ [x], p.2 ++ [x])
theorem add_spec : ∀ (l seen fresh : List (List Int)), ∃ new, l.foldl add1 (seen, fresh) = (seen ++ new, fresh ++ new) ∧ new.Nodup ∧ (∀ x, x ∈ new ↔ x ∈ l ∧ x ∉ seen) ∧ new.length ≤ l.length
  | [], seen, fresh => ⟨[], by simp, by simp, by simp, by simp⟩
  | x :: l, seen, fresh => by
    rw [List.foldl_cons]
    by_cases h : x ∈ seen
    · obtain ⟨new, h1, h2, h3, h4⟩ := add_spec l seen fresh
      refine ⟨new, by rw [← h1]; simp [add1, h], h2, fun y => ?_, by rw [List.length_cons]; omega⟩
      rw [h3, List.mem_cons]
      constructor
      · rintro ⟨q1, q2⟩
        exact ⟨.inr q1, q2⟩
      · rintro ⟨q1 | q1, q2⟩
        · subst q1
          exact absurd h q2
        · exact ⟨q1, q2⟩
    · obtain ⟨new, h1, h2, h3, h4⟩ := add_spec l (seen ++ [x]) (fresh ++ [x])
      refine ⟨x :: new, by
        have e : add1 (seen, fresh) x = (seen ++ [x], fresh ++ [x]) := if_neg h
        rw [e, h1, List.append_assoc, List.append_assoc]
        rfl, List.nodup_cons.mpr ⟨fun q => ?_, h2⟩, fun y => ?_, by rw [List.length_cons, List.length_cons]; omega⟩
      · have := ((h3 x).mp q).2
        simp at this
      · rw [List.mem_cons, h3, List.mem_cons, List.mem_append, List.mem_singleton]
        constructor
        · rintro (q | ⟨q1, q2⟩)
          · subst q
            exact ⟨.inl rfl, h⟩
          · exact ⟨.inr q1, fun z => q2 (.inl z)⟩
        · rintro ⟨q1 | q1, q2⟩
          · exact .inl q1
          · by_cases hy : y = x
            · exact .inl hy
            · exact .inr ⟨q1, fun z => z.elim q2 hy⟩
/-! ### ways -/
def wayP (ts : List Rl) (o : List Int) : Nat → List Int → Option (List Mv)
  | 0, a => if a = o then some [] else none
  | n + 1, a => (mvs ts.length).findSome? fun m => (aft ts a m).bind fun c => (wayP ts o n c).map fun p => m :: p
theorem way_some {ts : List Rl} {o : List Int} : ∀ {n : Nat} {a : List Int}, (wayP ts o n a).isSome = true ↔ Wk ts n a o
  | 0, a => by
    unfold wayP Wk
    split
    · rename_i h
      simp [h]
    · rename_i h
      simp [h]
  | n + 1, a => by
    unfold wayP Wk
    rw [List.findSome?_isSome_iff]
    constructor
    · rintro ⟨m, hm, h⟩
      cases e : aft ts a m with
      | none =>
        rw [e] at h
        cases h
      | some c =>
        rw [e] at h
        refine ⟨c, mem_nbrs.mpr ⟨m, e⟩, way_some.mp ?_⟩
        simpa using h
    · rintro ⟨c, hc, hw⟩
      obtain ⟨m, hm⟩ := mem_nbrs.mp hc
      refine ⟨m, mem_mvs.mpr (aft_lt hm), ?_⟩
      rw [hm]
      have := way_some.mpr hw
      simpa using this
end LB
namespace LB
open PySem PySem.Spec PyProof.Rows L2 DL PySem.W
/-! ### markets as data, their texts -/
/-- small lengths, small amounts -/
def Sml (a : List Int) : Prop := a.length ≤ 100 ∧ ∀ x ∈ a, x.natAbs < 10 ^ 24
end LB
/-! short ways (as in k04). -/
namespace LS
open PySem PySem.Spec PyProof.Rows L2 DL PySem.W LB
/-- the store behind: longer, alike but at these places -/
def Fo (ks : List Nat) (S S' : Store) : Prop := S.length ≤ S'.length ∧ ∀ k, k ∉ ks → k < S.length → S'[k]? = S[k]?
theorem Fo.refl (ks : List Nat) (S : Store) : Fo ks S S := ⟨Nat.le_refl _, fun _ _ _ => rfl⟩
theorem Fo.trans {ks : List Nat} {S S' S2 : Store} (h : Fo ks S S') (g : Fo ks S' S2) : Fo ks S S2 :=
  ⟨Nat.le_trans h.1 g.1, fun k hk hl => (g.2 k hk (Nat.lt_of_lt_of_le hl h.1)).trans (h.2 k hk hl)⟩
theorem Fo.snoc (ks : List Nat) (S : Store) (o : Option DO) : Fo ks S (S ++ [o]) := ⟨by simp, fun k _ hl => by rw [List.getElem?_append_left hl]⟩
theorem Fo.set {ks : List Nat} {i : Nat} (S : Store) (o : Option DO) (h : i ∈ ks) : Fo ks S (S.set i o) :=
  ⟨by simp, fun k hk _ => by rw [List.getElem?_set_ne (fun z => hk (by rw [← z]; exact h))]⟩
theorem Fo.get {ks : List Nat} {S S' : Store} {k : Nat} {o : Option DO} (f : Fo ks S S') (hk : k ∉ ks) (e : S[k]? = some o) : S'[k]? = some o := by
  rw [f.2 k hk (List.getElem?_eq_some_iff.mp e).1, e]
/-- what is new does not count -/
theorem Fo.old {ks : List Nat} {S0 S S' : Store} (h : Fo [] S0 S) (f : Fo ks S S') (hk : ∀ k ∈ ks, S0.length ≤ k) : Fo [] S0 S' :=
  ⟨Nat.le_trans h.1 f.1, fun k _ hl => (f.2 k (fun z => absurd (hk k z) (by omega)) (Nat.lt_of_lt_of_le hl h.1)).trans (h.2 k (by simp) hl)⟩
theorem rsV_len (ts : List Rl) : (rsV ts).length = ts.length := List.length_map ..
section
variable {δ : DEnv} {S : Store} {Q : MK DV} {QL : MK (List DV)} {E : MX} {D : EndsD}
theorem mDPut_e {a b c : ME} : mDPut a b c D δ S = c δ S (fun v S1 => a δ S1 (fun x S2 => b δ S2 (fun y S3 => ∃ i kvs k, x = .ref i ∧ S3[i]? = some (some (.dct kvs)) ∧ y = DL.tk k ∧ getK kvs k = none ∧ kvs.length < 16777216 ∧ D.nx δ (S3.set i (some (.dct (kvs ++ [(k, v)]))))) (fun x S' => D.ex x δ S')) (fun x S' => D.ex x δ S')) (fun x S' => D.ex x δ S') := id rfl
theorem mDGet_e {a b : ME} : mDGet a b δ S Q E = a δ S (fun x S1 => b δ S1 (fun y S2 => ∃ i kvs k d, x = .ref i ∧ S2[i]? = some (some (.dct kvs)) ∧ y = DL.tk k ∧ getK kvs k = some d ∧ Q d S2) E) E := id rfl
theorem mDGet2_e {a b c : ME} : mDGet2 a b c δ S Q E = a δ S (fun x S1 => ∃ i kvs, x = .ref i ∧ S1[i]? = some (some (.dct kvs)) ∧ b δ S1 (fun y S2 => c δ S2 (fun z S3 => ∃ kvs k, S3[i]? = some (some (.dct kvs)) ∧ y = DL.tk k ∧ Q ((getK kvs k).getD z) S3) E) E) E := id rfl
theorem mDctO0_e : mDctO0 δ S Q E = Q (.ref S.length) (S ++ [some (.dct [])]) := id rfl
theorem mDctO1_e {a b : ME} : mDctO1 a b δ S Q E = a δ S (fun x S1 => b δ S1 (fun y S2 => ∃ k, x = DL.tk k ∧ Q (.ref S2.length) (S2 ++ [some (.dct [(k, y)])])) E) E := id rfl
theorem mFz_e {a : ME} : mFz a δ S Q E = a δ S (fun x S1 => ∃ i ds, x = .ref i ∧ S1[i]? = some (some (.lst ds)) ∧ Q (.lst ds) (S1.set i none)) E := id rfl
theorem mLc2_e {it : MI} {t : Tg} {mi1 : MI} {t1 : Tg} {te : ME} {vs vs1 : List Nat} : mLc2 it t mi1 t1 te vs vs1 δ S Q E = it δ S (fun xs S1 => lcGo2 t mi1 t1 te vs1 (wipeD δ vs) xs [] S1 (fun ys S2 => Q (.lst ys) S2)) E := id rfl
theorem lcGo2_n {t : Tg} {mi1 : MI} {t1 : Tg} {te : ME} {vs1 : List Nat} {acc : List DV} : lcGo2 t mi1 t1 te vs1 δ [] acc S QL = QL acc S := id rfl
theorem lcGo2_c {t : Tg} {mi1 : MI} {t1 : Tg} {te : ME} {vs1 : List Nat} {acc xs : List DV} {x : DV} : lcGo2 t mi1 t1 te vs1 δ (x :: xs) acc S QL = onEnv (bindT t x δ) fun δ1 => mi1 δ1 S (fun ys S1 => lcGo t1 mYes te (wipeD δ1 vs1) ys acc S1 (fun acc' S2 => lcGo2 t mi1 t1 te vs1 δ xs acc' S2 QL)) noE := id rfl
/-! ### all steps of a market -/
def mvV (m : Mv) : DV := .tup [.int m.1, .bl m.2]
theorem steps_go {d0 : Option DV} : ∀ (ks : List Nat) (acc : List DV), acc.length + 2 * ks.length < 16777216 → QL (acc ++ (ks.flatMap fun k => [(k, false), (k, true)]).map mvV) S →
    lcGo2 (.nm 1) (iS (mTup (mCons (mC (.bl false)) (mCons (mC (.bl true)) mNil)))) (.nm 2) (mTup (mCons (mVar 1) (mCons (mVar 2) mNil))) [2] [d0, none, none] (ks.map fun (k : Nat) => DV.int k) acc S QL
  | [], acc, _, q => by
    rw [List.map_nil, lcGo2_n]
    simpa using q
  | k :: ks, acc, hl, q => by
    rw [List.length_cons] at hl
    simp only [List.map_cons, lcGo2_c, STEPS, true_and, List.map_cons, List.map_nil, List.length_cons, List.length_nil, List.cons_append, List.nil_append, List.set_cons_zero, List.set_cons_succ, List.replicate_zero, List.replicate_succ, lcGo_c, lcGo_n]
    refine ⟨by omega, by simp; omega, ?_⟩
    refine steps_go ks _ (by simp; omega) ?_
    simpa [mvV] using q
theorem all_ok {g : Nat} {ts : List Rl} (h : ts.length ≤ 1000) (q : Q (.lst ((mvs ts.length).map mvV)) S) : m_all_steps [mV g ts] S Q E := by
  simp only [app4 m_all_steps_e, app3 b_all_steps_e, STEPS, true_and, List.map_cons, List.map_nil, List.length_cons, List.length_nil, List.cons_append, List.nil_append, List.set_cons_zero, List.set_cons_succ, List.replicate_zero, List.replicate_succ, mLc2_e, mV, atI_1, rsV_len]
  refine ⟨by omega, by omega, ?_⟩
  rw [Int.toNat_natCast, rng0_eq]
  exact steps_go _ _ (by simp; omega) (by rw [List.nil_append]; exact q)
/-! ### rings -/
def kt (l : List (List Int)) : List (List Int × DV) := l.map fun x => (x, .bl true)
theorem kt_len (l : List (List Int)) : (kt l).length = l.length := by simp [kt]
theorem kt_snoc (l : List (List Int)) (x : List Int) : kt l ++ [(x, .bl true)] = kt (l ++ [x]) := by simp [kt]
theorem kt_get : ∀ (l : List (List Int)) (x : List Int), (getK (kt l) x).isSome = decide (x ∈ l)
  | [], x => by simp [kt, getK]
  | y :: l, x => by
    show (getK ((y, DV.bl true) :: kt l) x).isSome = _
    unfold getK
    by_cases h : y = x
    · simp [h]
    · rw [if_neg h, kt_get l x]
      have : ¬ x = y := fun z => h z.symm
      simp [this]
theorem kt_non {l : List (List Int)} {x : List Int} (h : x ∉ l) : getK (kt l) x = none := by
  have := kt_get l x
  rw [decide_eq_false h] at this
  simpa using this
/-- the loop over the steps from one stock -/
theorem ring_in {g i f : Nat} {ts : List Rl} {old : List Int} {d1 d2 d4 d5 : Option DV} (hif : i ≠ f) (ho : old.length ≤ 1000) : ∀ (l : List Mv) (seen fresh : List (List Int)) (d8 d9 : Option DV) (S : Store), (∀ m ∈ l, m.1 < ts.length) → S[i]? = some (some (.dct (kt seen))) → S[f]? = some (some (.dct (kt fresh))) →
    (∀ x ∈ fresh, x ∈ seen) → seen.length + l.length < 16000000 → fresh.length + l.length < 16000000 →
    (∀ d8 d9 S' seen' fresh', (l.filterMap (aft ts old)).foldl add1 (seen, fresh) = (seen', fresh') → S'[i]? = some (some (.dct (kt seen'))) → S'[f]? = some (some (.dct (kt fresh'))) → Fo [i, f] S S' → D.nx [some (mV g ts), d1, d2, some (.ref i), d4, d5, some (.ref f), some (.tup (intsV old)), d8, d9] S') →
    forGo (gTg (.nm 8)) f_rings_1 D (l.map mvV) [some (mV g ts), d1, d2, some (.ref i), d4, d5, some (.ref f), some (.tup (intsV old)), d8, d9] S
  | [], seen, fresh, d8, d9, S, _, hi, hf, _, _, _, q => q d8 d9 S seen fresh rfl hi hf (Fo.refl _ _)
  | m :: l, seen, fresh, d8, d9, S, hm, hi, hf, hs, h1, h2, q => by
    rw [List.length_cons] at h1 h2
    have hk : m.1 < ts.length := hm m List.mem_cons_self
    have ek : ts[m.1]? = some ts[m.1] := List.getElem?_eq_getElem hk
    have ea : aft ts old m = aftR old ts[m.1] m.2 := by unfold aft; rw [ek]
    simp only [List.map_cons, forGo_c, app3 f_rings_1_e, STEPS, true_and, List.map_cons, List.map_nil, List.length_cons, List.length_nil, List.cons_append, List.nil_append, List.set_cons_zero, List.set_cons_succ, List.replicate_zero, List.replicate_succ, mvV]
    rw [show mV g ts = DV.tup [.int g, .tup (rsV ts)] from rfl] at *
    simp only [STEPS, true_and, atI_1]
    refine moved_ok ek ho ?_
    rw [← ea]
    cases e : aft ts old m with
    | none =>
      simp only [optV, app3 r_rings_2_e, STEPS, true_and, List.map_cons, List.map_nil, List.length_cons, List.length_nil, List.cons_append, List.nil_append, List.set_cons_zero, List.set_cons_succ, List.replicate_zero, List.replicate_succ]
      refine ring_in hif ho l seen fresh _ _ S (fun x hx => hm x (List.mem_cons_of_mem _ hx)) hi hf hs (by omega) (by omega) fun d8 d9 S' seen' fresh' ef => q d8 d9 S' seen' fresh' ?_
      rw [List.filterMap_cons, e]
      exact ef
    | some y =>
      simp only [optV, app3 r_rings_2_e, STEPS, true_and, List.map_cons, List.map_nil, List.length_cons, List.length_nil, List.cons_append, List.nil_append, List.set_cons_zero, List.set_cons_succ, List.replicate_zero, List.replicate_succ, Bool.not_false]
      refine ⟨i, kt seen, y, rfl, hi, rfl, ?_⟩
      rw [kt_get]
      by_cases h : y ∈ seen
      · simp only [decide_eq_true h, Bool.not_true, STEPS, true_and]
        refine ring_in hif ho l seen fresh _ _ S (fun x hx => hm x (List.mem_cons_of_mem _ hx)) hi hf hs (by omega) (by omega) fun d8 d9 S' seen' fresh' ef => q d8 d9 S' seen' fresh' ?_
        rw [List.filterMap_cons, e]
        show ((l.filterMap (aft ts old)).foldl add1 (add1 (seen, fresh) y)) = _
        rw [show add1 (seen, fresh) y = (seen, fresh) from if_pos h]
        exact ef
      · have hfr : y ∉ fresh := fun z => h (hs y z)
        simp only [decide_eq_false h, Bool.not_false, STEPS, true_and, mDPut_e, List.map_cons, List.map_nil, List.length_cons, List.length_nil, List.cons_append, List.nil_append, List.set_cons_zero, List.set_cons_succ, List.replicate_zero, List.replicate_succ]
        refine ⟨i, kt seen, y, rfl, hi, rfl, kt_non h, by rw [kt_len]; omega, ?_⟩
        have li := (List.getElem?_eq_some_iff.mp hi).1
        have lf := (List.getElem?_eq_some_iff.mp hf).1
        have hf1 : (S.set i (some (.dct (kt seen ++ [(y, .bl true)]))))[f]? = some (some (.dct (kt fresh))) := by rw [List.getElem?_set_ne hif]; exact hf
        simp only [app3 r_rings_1_e, mDPut_e, STEPS, true_and, List.map_cons, List.map_nil, List.length_cons, List.length_nil, List.cons_append, List.nil_append, List.set_cons_zero, List.set_cons_succ, List.replicate_zero, List.replicate_succ]
        refine ⟨f, kt fresh, y, rfl, hf1, rfl, kt_non hfr, by rw [kt_len]; omega, ?_⟩
        rw [kt_snoc, kt_snoc]
        refine ring_in hif ho l (seen ++ [y]) (fresh ++ [y]) _ _ _ (fun x hx => hm x (List.mem_cons_of_mem _ hx)) ?_ ?_ (fun x hx => ?_) (by simp; omega) (by simp; omega) fun d8 d9 S' seen' fresh' ef hi' hf' F' => q d8 d9 S' seen' fresh' ?_ hi' hf' (((Fo.set S _ (by simp)).trans (Fo.set _ _ (by simp))).trans F')
        · rw [List.getElem?_set_ne (Ne.symm hif), List.getElem?_set_self li]
        · rw [List.getElem?_set_self (by rw [List.length_set]; exact lf)]
        · rcases List.mem_append.mp hx with z | z
          · exact List.mem_append_left _ (hs x z)
          · exact List.mem_append_right _ z
        · rw [List.filterMap_cons, e]
          show ((l.filterMap (aft ts old)).foldl add1 (add1 (seen, fresh) y)) = _
          rw [show add1 (seen, fresh) y = (seen ++ [y], fresh ++ [y]) from if_neg h]
          exact ef
/-- the loop over the stocks of a ring -/
theorem ring_out {g i f : Nat} {ts : List Rl} {d1 d2 d4 d5 : Option DV} (hif : i ≠ f) (hts : ts.length ≤ 4) : ∀ (ring : List (List Int)) (seen fresh : List (List Int)) (d7 d8 d9 : Option DV) (S : Store), (∀ a ∈ ring, a.length ≤ 1000) → S[i]? = some (some (.dct (kt seen))) → S[f]? = some (some (.dct (kt fresh))) →
    (∀ x ∈ fresh, x ∈ seen) → seen.length + 8 * ring.length < 16000000 → fresh.length + 8 * ring.length < 16000000 →
    (∀ d7 d8 d9 S' seen' fresh', (ring.flatMap (nbrs ts)).foldl add1 (seen, fresh) = (seen', fresh') → S'[i]? = some (some (.dct (kt seen'))) → S'[f]? = some (some (.dct (kt fresh'))) → Fo [i, f] S S' → D.nx [some (mV g ts), d1, d2, some (.ref i), d4, d5, some (.ref f), d7, d8, d9] S') →
    forGo (gTg (.nm 7)) f_rings_2 D (ring.map fun x => .tup (intsV x)) [some (mV g ts), d1, d2, some (.ref i), d4, d5, some (.ref f), d7, d8, d9] S
  | [], seen, fresh, d7, d8, d9, S, _, hi, hf, _, _, _, q => q d7 d8 d9 S seen fresh rfl hi hf (Fo.refl _ _)
  | old :: ring, seen, fresh, d7, d8, d9, S, ho, hi, hf, hs, h1, h2, q => by
    rw [List.length_cons] at h1 h2
    simp only [List.map_cons, forGo_c, app3 f_rings_2_e, STEPS, true_and, List.map_cons, List.map_nil, List.length_cons, List.length_nil, List.cons_append, List.nil_append, List.set_cons_zero, List.set_cons_succ, List.replicate_zero, List.replicate_succ]
    refine all_ok (by omega) ?_
    have lm : (mvs ts.length).length ≤ 8 := by rw [mvs_len]; omega
    refine ring_in hif (ho old List.mem_cons_self) (mvs ts.length) seen fresh _ _ S (fun m hm => mem_mvs.mp hm) hi hf hs (by omega) (by omega) fun d8 d9 S' seen' fresh' ef hi' hf' F' => ?_
    obtain ⟨new, e1, _, e3, e4⟩ := add_spec ((mvs ts.length).filterMap (aft ts old)) seen fresh
    rw [ef] at e1
    obtain ⟨rfl, rfl⟩ := Prod.mk.inj e1
    have ln : new.length ≤ 8 := Nat.le_trans e4 (Nat.le_trans (List.length_filterMap_le _ _) lm)
    refine ring_out hif hts ring _ _ _ _ _ S' (fun a ha => ho a (List.mem_cons_of_mem _ ha)) hi' hf' (fun x hx => ?_) (by rw [List.length_append]; omega) (by rw [List.length_append]; omega) fun d7 d8 d9 S2 s2 f2 ef2 hi2 hf2 F2 => q d7 d8 d9 S2 s2 f2 ?_ hi2 hf2 (F'.trans F2)
    · rcases List.mem_append.mp hx with z | z
      · exact List.mem_append_left _ (hs x z)
      · exact List.mem_append_right _ z
    · rw [List.flatMap_cons, List.foldl_append, ← ef2, ← ef]
      rfl
theorem fIx_r {i : Nat} {ds : List DV} {k : Int} {v : DV} (h : S[i]? = some (some (.lst ds))) (ha : atI ds k = some v) (q : Q v S) : fIx (.ref i) (.int k) S Q := by
  have e : seqD S (.ref i) = some ds := by
    show (match S[i]? with
      | some (some (.lst ds)) => some ds
      | _ => none) = some ds
    rw [h]
  show (match seqD S (.ref i) with
    | some ds => (match atI ds k with
      | some e => Q e S
      | none => False)
    | none => False)
  rw [e]
  show (match atI ds k with
      | some e => Q e S
      | none => False)
  rw [ha]
  exact q
theorem tyM_l {p : Nat} {ds : List DV} (h : S[p]? = some (some (.lst ds))) : tyM "list" (.ref p) S := ⟨rfl, by
  show (match S[p]? with
    | some (some (DO.lst ds)) => some ds
    | _ => none).isSome = true
  rw [h]
  rfl⟩
theorem append_l {p : Nat} {ds : List DV} {d : DV} (h : S[p]? = some (some (.lst ds))) (hl : ds.length < 16777216) (q : Q .non (S.set p (some (.lst (ds ++ [d]))))) : gAppend (.ref p) [d] S Q := ⟨p, ds, d, by
  show (match S[p]? with
    | some (some (DO.lst ds)) => some (p, ds)
    | _ => none) = _
  rw [h], rfl, hl, q⟩
theorem atI_end {ds : List DV} {d : Nat} {v : DV} (hl : ds.length = d + 1) (h : ds[d]? = some v) : atI ds (-1) = some v := by
  unfold atI
  have e : ixN ds.length (-1) = some d := by
    unfold ixN
    rw [hl, if_neg (by omega), if_pos (by omega)]
    congr 1
    omega
  rw [e]
  exact h
def ringV (L : List (List Int)) : DV := .lst (L.map fun x => .tup (intsV x))
theorem pI_cons {x : List Int} (h : 1 ≤ x.length) : ∃ y r, pI x = y :: r := by
  cases x with
  | nil => simp at h
  | cons y r => exact ⟨_, _, rfl⟩
theorem keys_toPs : ∀ l : List (List Int), toPs ((kt l).map fun p => DL.tk p.1) = some (l.map fun x => .tuple (pI x))
  | [] => rfl
  | x :: l => toPs_cons (toP_it x) (keys_toPs l)
/-- the rings so far -/
structure Rg (ts : List Rl) (s : List Int) (d : Nat) (Ls : List (List (List Int))) (seen : List (List Int)) : Prop where
  len : Ls.length = d + 1
  ring : ∀ e (h : e < Ls.length), (Ls[e]).Nodup ∧ ∀ x, x ∈ Ls[e] ↔ Ds ts s e x
  sn : ∀ x, x ∈ seen ↔ ∃ e, e ≤ d ∧ Ds ts s e x
  few : ∀ e (h : e < Ls.length), (Ls[e]).length ≤ 8 ^ e
  sum : seen.length = (Ls.map List.length).sum
  few2 : seen.length ≤ 2 * 8 ^ d
theorem Rg.next {ts : List Rl} {s : List Int} {d : Nat} {Ls : List (List (List Int))} {seen seen' fresh' L : List (List Int)} (R : Rg ts s d Ls seen) (hts : ts.length ≤ 4) (hd : d < Ls.length) (e : ((Ls[d]).flatMap (nbrs ts)).foldl add1 (seen, []) = (seen', fresh')) (hp : L.Perm fresh') :
    Rg ts s (d + 1) (Ls ++ [L]) seen' ∧ (∀ x ∈ fresh', ∃ y, y ∈ Ls[d] ∧ x ∈ nbrs ts y) ∧ fresh'.length ≤ 8 ^ (d + 1) := by
  obtain ⟨new, e1, e2, e3, e4⟩ := add_spec ((Ls[d]).flatMap (nbrs ts)) seen []
  rw [e] at e1
  obtain ⟨rfl, h2⟩ := Prod.mk.inj e1
  rw [List.nil_append] at h2
  subst h2
  have lf : ∀ l : List (List Int), (l.flatMap (nbrs ts)).length ≤ 8 * l.length := by
    intro l
    induction l with
    | nil => simp
    | cons x l ih =>
      rw [List.flatMap_cons, List.length_append, List.length_cons]
      have := nbrs_len ts x
      omega
  have few := R.few d hd
  have hn : fresh'.length ≤ 8 ^ (d + 1) := by
    have := lf (Ls[d])
    rw [Nat.pow_succ]
    omega
  have mem : ∀ x, x ∈ fresh' ↔ Ds ts s (d + 1) x := fun x => by
    rw [e3, ds_succ, List.mem_flatMap, R.sn]
    constructor
    · rintro ⟨⟨y, h1, h2⟩, h3⟩
      exact ⟨⟨y, ((R.ring d hd).2 y).mp h1, h2⟩, h3⟩
    · rintro ⟨⟨y, h1, h2⟩, h3⟩
      exact ⟨⟨y, ((R.ring d hd).2 y).mpr h1, h2⟩, h3⟩
  refine ⟨⟨by rw [List.length_append, R.len]; rfl, fun k hk => ?_, fun x => ?_, fun k hk => ?_, ?_, ?_⟩, fun x hx => ?_, hn⟩
  · by_cases h : k < Ls.length
    · rw [List.getElem_append_left h]
      exact R.ring k h
    · have : k = Ls.length := by rw [List.length_append, List.length_singleton] at hk; omega
      subst this
      rw [List.getElem_append_right (Nat.le_refl _)]
      simp only [Nat.sub_self, List.getElem_cons_zero]
      refine ⟨hp.nodup_iff.mpr e2, fun x => ?_⟩
      rw [hp.mem_iff, mem, R.len]
  · rw [List.mem_append, R.sn, mem]
    constructor
    · rintro (⟨k, h1, h2⟩ | h)
      · exact ⟨k, by omega, h2⟩
      · exact ⟨d + 1, Nat.le_refl _, h⟩
    · rintro ⟨k, h1, h2⟩
      by_cases hk : k = d + 1
      · subst hk
        exact .inr h2
      · exact .inl ⟨k, by omega, h2⟩
  · by_cases h : k < Ls.length
    · rw [List.getElem_append_left h]
      exact R.few k h
    · have : k = Ls.length := by rw [List.length_append, List.length_singleton] at hk; omega
      subst this
      rw [List.getElem_append_right (Nat.le_refl _)]
      simp only [Nat.sub_self, List.getElem_cons_zero]
      rw [hp.length_eq, R.len]
      exact hn
  · rw [List.length_append, List.map_append, List.sum_append, R.sum]
    simp [hp.length_eq]
  · rw [List.length_append]
    have := R.few2
    rw [Nat.pow_succ] at hn ⊢
    omega
  · have := (e3 x).mp hx
    exact List.mem_flatMap.mp this.1
/-! ### the distances -/
theorem getK_mem : ∀ {kvs : List (List Int × DV)} {x : List Int} {d : DV}, getK kvs x = some d → (x, d) ∈ kvs
  | [], x, d, h => by cases h
  | p :: kvs, x, d, h => by
    unfold getK at h
    split at h
    · rename_i e
      cases h
      subst e
      exact List.mem_cons_self
    · exact List.mem_cons_of_mem _ (getK_mem h)
theorem getK_non {kvs : List (List Int × DV)} {x : List Int} (h : x ∉ kvs.map Prod.fst) : getK kvs x = none := by
  cases e : getK kvs x with
  | none => rfl
  | some d => exact absurd (List.mem_map_of_mem (f := Prod.fst) (getK_mem e)) h
/-- what the distances tell -/
structure Aw (ts : List Rl) (o : List Int) (n : Nat) (kvs : List (List Int × DV)) : Prop where
  to : ∀ {d : Nat} {x : List Int}, d ≤ n → Ds ts o d x → getK kvs x = some (.int d)
  of : ∀ {x : List Int} {v : DV}, getK kvs x = some v → ∃ d : Nat, d ≤ n ∧ v = .int d ∧ Ds ts o d x
/-! ### the shortest way -/
/-- one step of the way: the first step that leads nearer -/
theorem near_in {g n d i j : Nat} {ts : List Rl} {o x : List Int} {kvs : List (List Int × DV)} {p0 : List Mv} {d1 d2 d5 d6 : Option DV} (G : Gd g ts) (ho : o.length = g) (hx : x.length = g) (hg : g ≤ 1000) (A : Aw ts o n kvs) (hd : d + 1 ≤ n) (hD : Ds ts o (d + 1) x)
    (hp0 : p0.length ≤ 1000) (hi : S[i]? = some (some (.dct kvs))) (hj : S[j]? = some (some (.lst (p0.map mvV)))) : ∀ (l : List Mv) (p : List Mv) (d9 d10 : Option DV), (∀ m ∈ l, m.1 < ts.length) → (l.findSome? fun m => (aft ts x m).bind fun c => (wayP ts o d c).map fun p => m :: p) = some p →
    (∀ m y rest d9 d10, p = m :: rest → aft ts x m = some y → wayP ts o d y = some rest → Ds ts o d y → D.nx [some (mV g ts), d1, d2, some (.int n), some (.ref i), d5, d6, some (.tup (intsV y)), some (.ref j), d9, d10] (S.set j (some (.lst (p0.map mvV ++ [mvV m]))))) →
    forGo (gTg (.nm 9)) f_shortest_3 D (l.map mvV) [some (mV g ts), d1, d2, some (.int n), some (.ref i), d5, d6, some (.tup (intsV x)), some (.ref j), d9, d10] S
  | [], p, d9, d10, _, h, _ => by cases h
  | m :: l, p, d9, d10, hm, h, q => by
    have hk : m.1 < ts.length := hm m List.mem_cons_self
    have ek : ts[m.1]? = some ts[m.1] := List.getElem?_eq_getElem hk
    have ea : aft ts x m = aftR x ts[m.1] m.2 := by unfold aft; rw [ek]
    rw [List.findSome?_cons] at h
    simp only [List.map_cons, forGo_c, app3 f_shortest_3_e, STEPS, true_and, List.map_cons, List.map_nil, List.length_cons, List.length_nil, List.cons_append, List.nil_append, List.set_cons_zero, List.set_cons_succ, List.replicate_zero, List.replicate_succ]
    rw [show mV g ts = DV.tup [.int g, .tup (rsV ts)] from rfl] at *
    simp only [STEPS, true_and, atI_1]
    unfold mvV
    refine moved_ok ek (by omega) ?_
    rw [← ea]
    have next : ∀ (d9 d10 : Option DV), ((aft ts x m).bind fun c => (wayP ts o d c).map fun p => m :: p) = none → forGo (gTg (.nm 9)) f_shortest_3 D (l.map mvV) [some (mV g ts), d1, d2, some (.int n), some (.ref i), d5, d6, some (.tup (intsV x)), some (.ref j), d9, d10] S := fun d9 d10 hn => by
      rw [hn] at h
      exact near_in G ho hx hg A hd hD hp0 hi hj l p d9 d10 (fun m hm' => hm m (List.mem_cons_of_mem _ hm')) h q
    cases e : aft ts x m with
    | none =>
      simp only [optV, app3 r_shortest_3_e, STEPS, true_and, List.map_cons, List.map_nil, List.length_cons, List.length_nil, List.cons_append, List.nil_append, List.set_cons_zero, List.set_cons_succ, List.replicate_zero, List.replicate_succ]
      exact next _ _ (by rw [e]; rfl)
    | some y =>
      have hgx : getK kvs x = some (.int ((d + 1 : Nat) : Int)) := A.to hd hD
      have ly : y.length = g := aft_len G hx e
      have hyx : x ∈ nbrs ts y := nbr_back G hx (mem_nbrs.mpr ⟨m, e⟩)
      simp only [optV, app3 r_shortest_3_e, STEPS, true_and, List.map_cons, List.map_nil, List.length_cons, List.length_nil, List.cons_append, List.nil_append, List.set_cons_zero, List.set_cons_succ, List.replicate_zero, List.replicate_succ, Bool.not_false, mDGet2_e, mDGet_e]
      refine ⟨i, kvs, rfl, hi, kvs, y, hi, rfl, i, kvs, x, _, rfl, hi, rfl, hgx, ?_⟩
      have e1 : (((d + 1 : Nat) : Int)) - 1 = (d : Int) := by omega
      simp only [STEPS, true_and, e1]
      cases ew : wayP ts o d y with
      | some rest =>
        have wy : Wk ts d o y := wk_rev G ly (way_some.mp (by rw [ew]; rfl))
        have hDy : Ds ts o d y := ⟨wy, fun k hk' hw => hD.2 (k + 1) (by omega) (wk_snoc hw hyx)⟩
        rw [A.to (by omega) hDy]
        show fEq (fun b => b) (.int (d : Int)) (.int (d : Int)) S _
        simp only [STEPS, true_and, decide_true]
        refine ⟨tyM_l hj, append_l hj (by rw [List.length_map]; omega) ?_⟩
        simp only [app3 r_shortest_2_e, app3 r_shortest_1_e, STEPS, true_and, List.map_cons, List.map_nil, List.length_cons, List.length_nil, List.cons_append, List.nil_append, List.set_cons_zero, List.set_cons_succ, List.replicate_zero, List.replicate_succ]
        refine q m y rest _ _ ?_ e ew hDy
        have h' := h
        rw [e] at h'
        have z : ((some y).bind fun c => (wayP ts o d c).map fun p => m :: p) = some (m :: rest) := by
          show (wayP ts o d y).map _ = _
          rw [ew]
          rfl
        rw [z] at h'
        exact (Option.some.inj h').symm
      | none =>
        have hno : ∀ v, (getK kvs y).getD (.int ((n : Int) + 1)) = v → ∃ k : Int, v = .int k ∧ k ≠ (d : Int) := fun v hv => by
          cases eg : getK kvs y with
          | none =>
            rw [eg] at hv
            exact ⟨(n : Int) + 1, hv.symm, by omega⟩
          | some w =>
            obtain ⟨k, hk1, rfl, hk2⟩ := A.of eg
            rw [eg] at hv
            refine ⟨(k : Int), hv.symm, fun z => ?_⟩
            have : k = d := by omega
            subst this
            have := way_some.mpr (wk_rev G ho hk2.1)
            rw [ew] at this
            cases this
        obtain ⟨k, hv, hk1⟩ := hno _ rfl
        rw [hv]
        show fEq (fun b => b) (.int k) (.int (d : Int)) S _
        simp only [STEPS, true_and, decide_eq_false hk1]
        exact next _ _ (by rw [e]; show (wayP ts o d y).map _ = none; rw [ew]; rfl)
end
end LS
/-! near stocks, pairs of stocks. -/
namespace LB
open PySem PySem.Spec PyProof.Rows L2 DL PySem.W
/-- the store behind: longer, alike but at these places -/
def Fo (ks : List Nat) (S S' : Store) : Prop := S.length ≤ S'.length ∧ ∀ k, k ∉ ks → k < S.length → S'[k]? = S[k]?
theorem Fo.refl (ks : List Nat) (S : Store) : Fo ks S S := ⟨Nat.le_refl _, fun _ _ _ => rfl⟩
theorem Fo.trans {ks : List Nat} {S S' S2 : Store} (h : Fo ks S S') (g : Fo ks S' S2) : Fo ks S S2 :=
  ⟨Nat.le_trans h.1 g.1, fun k hk hl => (g.2 k hk (Nat.lt_of_lt_of_le hl h.1)).trans (h.2 k hk hl)⟩
theorem Fo.snoc (ks : List Nat) (S : Store) (o : Option DO) : Fo ks S (S ++ [o]) := ⟨by simp, fun k _ hl => by rw [List.getElem?_append_left hl]⟩
theorem Fo.set {ks : List Nat} {i : Nat} (S : Store) (o : Option DO) (h : i ∈ ks) : Fo ks S (S.set i o) :=
  ⟨by simp, fun k hk _ => by rw [List.getElem?_set_ne (fun z => hk (by rw [← z]; exact h))]⟩
theorem Fo.get {ks : List Nat} {S S' : Store} {k : Nat} {o : Option DO} (f : Fo ks S S') (hk : k ∉ ks) (e : S[k]? = some o) : S'[k]? = some o := by
  rw [f.2 k hk (List.getElem?_eq_some_iff.mp e).1, e]
/-- what is new does not count -/
theorem Fo.old {ks : List Nat} {S0 S S' : Store} (h : Fo [] S0 S) (f : Fo ks S S') (hk : ∀ k ∈ ks, S0.length ≤ k) : Fo [] S0 S' :=
  ⟨Nat.le_trans h.1 f.1, fun k _ hl => (f.2 k (fun z => absurd (hk k z) (by omega)) (Nat.lt_of_lt_of_le hl h.1)).trans (h.2 k (by simp) hl)⟩
theorem rsV_len' (ts : List Rl) : (rsV ts).length = ts.length := List.length_map ..
section
variable {δ : DEnv} {S : Store} {Q : MK DV} {QL : MK (List DV)} {E : MX} {D : EndsD}
theorem mFz_e {a : ME} : mFz a δ S Q E = a δ S (fun x S1 => ∃ i ds, x = .ref i ∧ S1[i]? = some (some (.lst ds)) ∧ Q (.lst ds) (S1.set i none)) E := id rfl
theorem tyM_l {p : Nat} {ds : List DV} (h : S[p]? = some (some (.lst ds))) : tyM "list" (.ref p) S := ⟨rfl, by
  show (match S[p]? with
    | some (some (DO.lst ds)) => some ds
    | _ => none).isSome = true
  rw [h]
  rfl⟩
theorem append_l {p : Nat} {ds : List DV} {d : DV} (h : S[p]? = some (some (.lst ds))) (hl : ds.length < 16777216) (q : Q .non (S.set p (some (.lst (ds ++ [d]))))) : gAppend (.ref p) [d] S Q := ⟨p, ds, d, by
  show (match S[p]? with
    | some (some (DO.lst ds)) => some (p, ds)
    | _ => none) = _
  rw [h], rfl, hl, q⟩
def tupV (x : List Int) : DV := .tup (intsV x)
theorem one_step {j k : Nat} {b : Bool} {ts : List Rl} {a : List Int} {acc : List (List Int)} {d5 : Option DV} (hk : k < ts.length) (ha : a.length ≤ 1000) (hj : S[j]? = some (some (.lst (acc.map tupV)))) (hl : acc.length < 16000000)
    (q : ∀ d5 S', S'[j]? = some (some (.lst ((acc ++ (aft ts a (k, b)).toList).map tupV))) → Fo [j] S S' → D.nx [some (.tup (rsV ts)), some (.tup (intsV a)), some (.ref j), some (.int k), some (.bl b), d5] S') :
    f__law_around_1 D [some (.tup (rsV ts)), some (.tup (intsV a)), some (.ref j), some (.int k), some (.bl b), d5] S := by
  have ek : ts[k]? = some ts[k] := List.getElem?_eq_getElem hk
  have ea : aft ts a (k, b) = aftR a ts[k] b := by unfold aft; rw [ek]
  simp only [app3 f__law_around_1_e, STEPS, true_and, List.map_cons, List.map_nil, List.length_cons, List.length_nil, List.cons_append, List.nil_append, List.set_cons_zero, List.set_cons_succ, List.replicate_zero, List.replicate_succ]
  refine behind_ok ek ha ?_
  rw [← ea]
  cases e : aft ts a (k, b) with
  | none =>
    rw [e] at q
    simp only [optV, app3 r__law_around_1_e, STEPS, true_and, List.map_cons, List.map_nil, List.length_cons, List.length_nil, List.cons_append, List.nil_append, List.set_cons_zero, List.set_cons_succ, List.replicate_zero, List.replicate_succ]
    exact q _ S (by simpa using hj) (Fo.refl _ _)
  | some y =>
    rw [e] at q
    simp only [optV, app3 r__law_around_1_e, STEPS, true_and, List.map_cons, List.map_nil, List.length_cons, List.length_nil, List.cons_append, List.nil_append, List.set_cons_zero, List.set_cons_succ, List.replicate_zero, List.replicate_succ, Bool.not_false]
    refine ⟨tyM_l hj, append_l hj (by rw [List.length_map]; omega) (q _ _ ?_ (Fo.set S _ (by simp)))⟩
    rw [List.getElem?_set_self (List.getElem?_eq_some_iff.mp hj).1]
    simp [tupV]
theorem around_in {j : Nat} {ts : List Rl} {a : List Int} (ha : a.length ≤ 1000) : ∀ (ks : List Nat) (acc : List (List Int)) (d3 d4 d5 : Option DV) (S : Store), (∀ k ∈ ks, k < ts.length) → S[j]? = some (some (.lst (acc.map tupV))) → acc.length + 2 * ks.length < 16000000 →
    (∀ d3 d4 d5 S', S'[j]? = some (some (.lst ((acc ++ (ks.flatMap fun k => [(k, false), (k, true)]).filterMap (aft ts a)).map tupV))) → Fo [j] S S' → D.nx [some (.tup (rsV ts)), some (.tup (intsV a)), some (.ref j), d3, d4, d5] S') →
    forGo (gTg (.nm 3)) f__law_around_2 D (ks.map fun (k : Nat) => DV.int k) [some (.tup (rsV ts)), some (.tup (intsV a)), some (.ref j), d3, d4, d5] S
  | [], acc, d3, d4, d5, S, _, hj, _, q => q d3 d4 d5 S (by simpa using hj) (Fo.refl _ _)
  | k :: ks, acc, d3, d4, d5, S, hk, hj, hl, q => by
    rw [List.length_cons] at hl
    have tl : ∀ o : Option (List Int), o.toList.length ≤ 1 := fun o => by cases o <;> simp
    have t1 := tl (aft ts a (k, false))
    have t2 := tl (aft ts a (k, true))
    simp only [List.map_cons, forGo_c, app3 f__law_around_2_e, STEPS, true_and, List.map_cons, List.map_nil, List.length_cons, List.length_nil, List.cons_append, List.nil_append, List.set_cons_zero, List.set_cons_succ, List.replicate_zero, List.replicate_succ]
    refine one_step (hk k List.mem_cons_self) ha hj (by omega) fun d5 S1 j1 F1 => ?_
    simp only [forGo_c, STEPS, true_and, List.map_cons, List.map_nil, List.length_cons, List.length_nil, List.cons_append, List.nil_append, List.set_cons_zero, List.set_cons_succ, List.replicate_zero, List.replicate_succ]
    refine one_step (hk k List.mem_cons_self) ha j1 (by rw [List.length_append]; omega) fun d5 S2 j2 F2 => ?_
    refine around_in ha ks _ _ _ _ S2 (fun x hx => hk x (List.mem_cons_of_mem _ hx)) j2 (by simp only [List.length_append]; omega) fun d3 d4 d5 S3 j3 F3 => q d3 d4 d5 S3 ?_ ((F1.trans F2).trans F3)
    rw [j3]
    have e : ∀ (m : Mv) (l : List Mv), (m :: l).filterMap (aft ts a) = (aft ts a m).toList ++ l.filterMap (aft ts a) := fun m l => by
      rw [List.filterMap_cons]
      cases aft ts a m <;> rfl
    simp only [List.flatMap_cons, List.cons_append, List.nil_append, e, List.append_assoc]
theorem around_ok {ts : List Rl} {a : List Int} (ha : a.length ≤ 1000) (hts : ts.length ≤ 1000) (q : ∀ S', Fo [] S S' → Q (.lst ((nbrs ts a).map tupV)) S') : m__law_around [.tup (rsV ts), .tup (intsV a)] S Q E := by
  simp only [app4 m__law_around_e, app3 b__law_around_e, STEPS, true_and, List.map_cons, List.map_nil, List.length_cons, List.length_nil, List.cons_append, List.nil_append, List.set_cons_zero, List.set_cons_succ, List.replicate_zero, List.replicate_succ, app3 r__law_around_3_e, rsV_len']
  refine ⟨by omega, by omega, ?_⟩
  obtain ⟨j, hj⟩ : ∃ j, j = S.length := ⟨_, rfl⟩
  rw [← hj, Int.toNat_natCast, rng0_eq]
  have k0 : (S ++ [some (DO.lst [])])[j]? = some (some (.lst (([] : List (List Int)).map tupV))) := by rw [hj]; simp
  have F0 : Fo [] S (S ++ [some (DO.lst [])]) := Fo.snoc _ _ _
  generalize S ++ [some (DO.lst [])] = S1 at k0 F0 ⊢
  refine around_in ha _ [] _ _ _ S1 (fun k hk => List.mem_range.mp hk) k0 (by simp; omega) fun d3 d4 d5 S2 j2 F2 => ?_
  simp only [app3 r__law_around_2_e, STEPS, true_and, List.map_cons, List.map_nil, List.length_cons, List.length_nil, List.cons_append, List.nil_append, List.set_cons_zero, List.set_cons_succ, List.replicate_zero, List.replicate_succ, mFz_e]
  refine ⟨j, _, rfl, j2, ?_⟩
  rw [List.nil_append]
  have F3 : Fo [] S S2 := F0.old F2 fun k hk => by
    have : k = j := by simpa using hk
    omega
  exact q _ (F3.old (ks := [j]) (Fo.set _ _ (by simp)) fun k hk => by
    have : k = j := by simpa using hk
    omega)
/-- the deck stays where the store only grew -/
theorem dk_fo {t : Nat} {R S S' : Store} (D : Dk t R S) (f : Fo [] S S') : ∃ R', Dk t R' S' := by
  obtain ⟨cells, rests, rfl, e1, e2⟩ := D
  have g0 := f.get (k := 0) (by simp) (show _ = some _ from rfl)
  have g1 := f.get (k := 1) (by simp) (show _ = some _ from rfl)
  match S', g0, g1 with
  | [], g0, _ => cases g0
  | [_], _, g1 => cases g1
  | a :: b :: R', g0, g1 =>
    cases g0
    cases g1
    exact ⟨R', cells, rests, rfl, e1, e2⟩
/-! ### amounts -/
def Amt (B : Int) (a : List Int) : Prop := ∀ x ∈ a, 0 ≤ x ∧ x ≤ B
theorem Amt.mono {B C : Int} {a : List Int} (h : Amt B a) (l : B ≤ C) : Amt C a := fun x hx => ⟨(h x hx).1, by have := (h x hx).2; omega⟩
/-! ### near stocks -/
theorem near_ok {t g : Nat} {R : Store} {ts : List Rl} (G : Gd g ts) (hg : g ≤ 1000) (hts : ts.length ≤ 1000) {n : Nat} (hn : n ≤ 100) {a : List Int} (ha : a.length = g) (Dk0 : Dk t R S) (ht : t ≤ 2000000)
    (q : ∀ b S' R' t' k, b.length = g → k ≤ n → Wk ts k a b → Dk t' R' S' → t' ≤ t + n → Q (tupV b) S') : m__law_near [.ref 1, mV g ts, tupV a, .int n] S Q E := by
  simp only [app4 m__law_near_e, app3 b__law_near_e, STEPS, true_and, List.map_cons, List.map_nil, List.length_cons, List.length_nil, List.cons_append, List.nil_append, List.set_cons_zero, List.set_cons_succ, List.replicate_zero, List.replicate_succ]
  refine ⟨by omega, by omega, ?_⟩
  refine forGo_ind (fun xs δ S' => (∃ d4 d5 b, δ = [some (.ref 1), some (mV g ts), some (tupV b), some (.int n), d4, d5] ∧ b.length = g ∧ ∃ k, k + xs.length ≤ n ∧ Wk ts k a b) ∧ ∃ t' R', Dk t' R' S' ∧ t' + xs.length ≤ t + n) ?hn ?hs _ _ _ ⟨⟨_, _, a, rfl, ha, 0, by rw [rngD_len]; omega, rfl⟩, t, R, Dk0, by rw [rngD_len]; omega⟩
  case hn =>
    rintro δ S' ⟨⟨d4, d5, b, rfl, hb, k, hk, wk⟩, t', R', D', h⟩
    simp only [app3 r__law_near_2_e, STEPS, true_and, List.map_cons, List.map_nil, List.length_cons, List.length_nil, List.cons_append, List.nil_append, List.set_cons_zero, List.set_cons_succ, List.replicate_zero, List.replicate_succ]
    exact q b S' R' t' k hb (by simpa using hk) wk D' (by simpa using h)
  case hs =>
    rintro x xs δ S' ⟨⟨d4, d5, b, rfl, hb, k, hk, wk⟩, t', R', D', h⟩ ih
    rw [List.length_cons] at h hk
    simp only [forGo_c, app3 f__law_near_1_e, STEPS, true_and, List.map_cons, List.map_nil, List.length_cons, List.length_nil, List.cons_append, List.nil_append, List.set_cons_zero, List.set_cons_succ, List.replicate_zero, List.replicate_succ, mV, atI_1]
    refine around_ok (by omega) hts fun S2 F2 => ?_
    obtain ⟨R2, D2⟩ := dk_fo D' F2
    have nl := nbrs_len ts b
    simp only [app3 r__law_near_1_e, STEPS, true_and, List.map_cons, List.map_nil, List.length_cons, List.length_nil, List.cons_append, List.nil_append, List.set_cons_zero, List.set_cons_succ, List.replicate_zero, List.replicate_succ]
    refine ⟨by simp; omega, ?_⟩
    refine one_ok D2 (by simp) (by simp; omega) (by omega) fun S3 v D3 hv => ?_
    have hv' : ∃ c : List Int, v = tupV c ∧ c.length = g ∧ ∃ k', k' ≤ k + 1 ∧ Wk ts k' a c := by
      rcases List.mem_append.mp hv with h | h
      · obtain ⟨c, hc, rfl⟩ := List.mem_map.mp h
        exact ⟨c, rfl, nbr_len G hb hc, k + 1, Nat.le_refl _, wk_snoc wk hc⟩
      · exact ⟨b, by simpa using h, hb, k, by omega, wk⟩
    obtain ⟨c, rfl, hc, k', hk', wk'⟩ := hv'
    try simp only [STEPS, true_and, List.map_cons, List.map_nil, List.length_cons, List.length_nil, List.cons_append, List.nil_append, List.set_cons_zero, List.set_cons_succ, List.replicate_zero, List.replicate_succ]
    exact ih _ _ ⟨⟨_, _, c, rfl, hc, k', by omega, wk'⟩, _, _, D3, by omega⟩
end
end LB
namespace LS
open PySem PySem.Spec PyProof.Rows L2 DL PySem.W LB
/-! ### sorted stocks, rings, exactly -/
def tV (x : List Int) : DV := .tup (intsV x)
def tP (x : List Int) : PyData := .tuple (pI x)
def srtL (fr : List (List Int)) : List (List Int) := fr.mergeSort fun x y => dataLe false Prod.snd (tV x, tP x) (tV y, tP y)
theorem srtL_perm (fr : List (List Int)) : (srtL fr).Perm fr := List.mergeSort_perm _ _
theorem srt_eq (fr : List (List Int)) : (((fr.map tV).zip (fr.map tP)).mergeSort (dataLe false Prod.snd)).map Prod.fst = (srtL fr).map tV := by
  have e1 : ((fr.map tV).zip (fr.map tP)) = fr.map fun x => (tV x, tP x) := by rw [List.zip_map']
  rw [e1, ← List.map_mergeSort (f := fun x => (tV x, tP x)) (s := dataLe false Prod.snd) (fun _ _ _ _ => rfl), List.map_map]
  rfl
theorem toPs_tV : ∀ l : List (List Int), toPs (l.map tV) = some (l.map tP)
  | [] => rfl
  | x :: l => toPs_cons (toP_it x) (toPs_tV l)
section
variable {S : Store} {Q : MK DV}
theorem sorted_l {fr : List (List Int)} (hl : ∀ x ∈ fr, 1 ≤ x.length) (hz : fr.length ≤ 16777216) (q : Q (.lst ((srtL fr).map tV)) S) : gSorted [.lst (fr.map tV)] S Q := by
  refine ⟨fr.map tP, toPs_tV fr, ?_, .inl ?_, by rw [List.length_map]; exact hz, ?_, ?_⟩
  · intro d hd d' hd'
    obtain ⟨x, _, rfl⟩ := List.mem_map.mp hd
    obtain ⟨y, _, rfl⟩ := List.mem_map.mp hd'
    exact alike_it x y
  · intro d hd
    obtain ⟨x, hx, rfl⟩ := List.mem_map.mp hd
    obtain ⟨y, r, e⟩ := pI_cons (hl x hx)
    exact ⟨y, r, by rw [tP, e]⟩
  · intro p hp
    obtain ⟨x, _, rfl⟩ := List.mem_map.mp hp
    simp [tP, PyData.depth, DL.depthAll_ints]
  · rw [srt_eq]
    exact q
theorem sorted_x {f : Nat} {fresh : List (List Int)} (hf : S[f]? = some (some (.dct (kt fresh)))) (hl : ∀ x ∈ fresh, 1 ≤ x.length) (hz : fresh.length ≤ 16777216) (q : Q (ringV (srtL fresh)) S) : gSortedD [.ref f] S Q := by
  refine ⟨f, kt fresh, fresh.map tP, rfl, hf, keys_toPs fresh, ?_, .inl ?_, by rw [kt_len]; exact hz, ?_, ?_⟩
  · intro d hd d' hd'
    obtain ⟨x, _, rfl⟩ := List.mem_map.mp hd
    obtain ⟨y, _, rfl⟩ := List.mem_map.mp hd'
    exact alike_it x y
  · intro d hd
    obtain ⟨x, hx, rfl⟩ := List.mem_map.mp hd
    obtain ⟨y, r, e⟩ := pI_cons (hl x hx)
    exact ⟨y, r, by rw [tP, e]⟩
  · intro p hp
    obtain ⟨x, _, rfl⟩ := List.mem_map.mp hp
    simp [tP, PyData.depth, DL.depthAll_ints]
  · have e : ((kt fresh).map fun p => DL.tk p.1) = fresh.map tV := by
      unfold kt
      rw [List.map_map]
      rfl
    rw [e, srt_eq]
    exact q
end
def rgP (ts : List Rl) (s : List Int) : Nat → List (List (List Int)) × List (List Int)
  | 0 => ([[s]], [s])
  | n + 1 => ((rgP ts s n).1 ++ [srtL ((((rgP ts s n).1.getLastD []).flatMap (nbrs ts)).foldl add1 ((rgP ts s n).2, [])).2], ((((rgP ts s n).1.getLastD []).flatMap (nbrs ts)).foldl add1 ((rgP ts s n).2, [])).1)
theorem last_at {Ls : List (List (List Int))} {d : Nat} (h : Ls.length = d + 1) (hd : d < Ls.length) : Ls.getLastD [] = Ls[d] := by
  rw [List.getLastD_eq_getLast?, List.getLast?_eq_getElem?, h, Nat.add_sub_cancel, List.getElem?_eq_getElem hd]
  rfl
theorem rg_next {ts : List Rl} {s : List Int} {d : Nat} {Ls : List (List (List Int))} {seen seen' fresh' : List (List Int)} (R : Rg ts s d Ls seen) (eR : rgP ts s d = (Ls, seen)) (hd : d < Ls.length) (e : ((Ls[d]).flatMap (nbrs ts)).foldl add1 (seen, []) = (seen', fresh')) : rgP ts s (d + 1) = (Ls ++ [srtL fresh'], seen') := by
  show ((rgP ts s d).1 ++ [srtL ((((rgP ts s d).1.getLastD []).flatMap (nbrs ts)).foldl add1 ((rgP ts s d).2, [])).2], ((((rgP ts s d).1.getLastD []).flatMap (nbrs ts)).foldl add1 ((rgP ts s d).2, [])).1) = _
  rw [eR]
  show (Ls ++ [srtL (((Ls.getLastD []).flatMap (nbrs ts)).foldl add1 (seen, [])).2], (((Ls.getLastD []).flatMap (nbrs ts)).foldl add1 (seen, [])).1) = _
  rw [last_at R.len hd, e]
section
variable {S : Store} {Q : MK DV} {E : MX}
theorem rings_x {g n : Nat} {ts : List Rl} {s : List Int} (G : Gd g ts) (hg : 1 ≤ g) (hg2 : g ≤ 1000) (hs : s.length = g) (hts : ts.length ≤ 4) (hn : n ≤ 6)
    (q : ∀ S', Fo [] S S' → Q (.lst ((rgP ts s n).1.map ringV)) S') : m_rings [mV g ts, .tup (intsV s), .int n] S Q E := by
  simp only [app4 m_rings_e, app3 b_rings_e, STEPS, true_and, List.map_cons, List.map_nil, List.length_cons, List.length_nil, List.cons_append, List.nil_append, List.set_cons_zero, List.set_cons_succ, List.replicate_zero, List.replicate_succ, mDctO1_e]
  refine ⟨s, rfl, ?_⟩
  obtain ⟨i, hi⟩ : ∃ i, i = S.length := ⟨_, rfl⟩
  have hj : (S ++ [some (DO.dct [(s, DV.bl true)])]).length = i + 1 := by simp [hi]
  rw [hj, ← hi]
  have F0 : Fo [] S (S ++ [some (DO.dct [(s, DV.bl true)])] ++ [some (DO.lst [DV.lst [DV.tup (intsV s)]])]) := (Fo.snoc _ _ _).trans (Fo.snoc _ _ _)
  have h1 : (S ++ [some (DO.dct [(s, DV.bl true)])] ++ [some (DO.lst [DV.lst [DV.tup (intsV s)]])])[i]? = some (some (.dct (kt [s]))) := by
    rw [List.getElem?_append_left (by simp [hi]), hi]
    simp [kt]
  have h2 : (S ++ [some (DO.dct [(s, DV.bl true)])] ++ [some (DO.lst [DV.lst [DV.tup (intsV s)]])])[i + 1]? = some (some (.lst ([[s]].map ringV))) := by
    rw [← hj]
    simp [ringV]
  generalize S ++ [some (DO.dct [(s, DV.bl true)])] ++ [some (DO.lst [DV.lst [DV.tup (intsV s)]])] = S1 at F0 h1 h2 ⊢
  have R0 : Rg ts s 0 [[s]] [s] := ⟨rfl, fun e h => by
      have : e = 0 := by simpa using h
      subst this
      exact ⟨by simp, fun x => by simp [ds_0]⟩, fun x => by
      rw [List.mem_singleton]
      exact ⟨fun h => ⟨0, Nat.le_refl _, ds_0.mpr h⟩, fun ⟨e, he, h⟩ => by
        have : e = 0 := by omega
        subst this
        exact ds_0.mp h⟩, fun e h => by
      have : e = 0 := by simpa using h
      subst this
      simp, by simp, by simp⟩
  simp only [app3 r_rings_6_e, STEPS, true_and, List.map_cons, List.map_nil, List.length_cons, List.length_nil, List.cons_append, List.nil_append, List.set_cons_zero, List.set_cons_succ, List.replicate_zero, List.replicate_succ]
  refine ⟨by omega, by omega, ?_⟩
  refine forGo_ind (fun xs δ S' => (∃ d5 d6 d7 d8 d9, δ = [some (mV g ts), some (.tup (intsV s)), some (.int n), some (.ref i), some (.ref (i + 1)), d5, d6, d7, d8, d9]) ∧ ∃ d Ls seen, Rg ts s d Ls seen ∧ rgP ts s d = (Ls, seen) ∧ d + xs.length = n ∧ S'[i]? = some (some (.dct (kt seen))) ∧ S'[i + 1]? = some (some (.lst (Ls.map ringV))) ∧ Fo [] S S') ?hn ?hs _ _ _ ⟨⟨_, _, _, _, _, rfl⟩, 0, _, _, R0, rfl, by rw [rngD_len]; omega, h1, h2, F0⟩
  case hn =>
    rintro δ S' ⟨⟨d5, d6, d7, d8, d9, rfl⟩, d, Ls, seen, R, eR, hd, g1, g2, F⟩
    have : d = n := by simpa using hd
    subst this
    simp only [app3 r_rings_5_e, STEPS, true_and, List.map_cons, List.map_nil, List.length_cons, List.length_nil, List.cons_append, List.nil_append, List.set_cons_zero, List.set_cons_succ, List.replicate_zero, List.replicate_succ, mFz_e]
    refine ⟨i + 1, _, rfl, g2, ?_⟩
    have eL : Ls = (rgP ts s d).1 := by rw [eR]
    rw [eL]
    refine q _ ?_
    exact F.old (ks := [i + 1]) (Fo.set _ _ (by simp)) (fun k hk => by
      have : k = i + 1 := by simpa using hk
      omega)
  case hs =>
    rintro x xs δ S' ⟨⟨d5, d6, d7, d8, d9, rfl⟩, d, Ls, seen, R, eR, hd, g1, g2, F⟩ ih
    rw [List.length_cons] at hd
    simp only [forGo_c, STEPS, true_and, List.map_cons, List.map_nil, List.length_cons, List.length_nil, List.cons_append, List.nil_append, List.set_cons_zero, List.set_cons_succ, List.replicate_zero, List.replicate_succ, app3 f_rings_3_e, mDctO0_e, app3 r_rings_4_e]
    have li := (List.getElem?_eq_some_iff.mp g1).1
    have lj := (List.getElem?_eq_some_iff.mp g2).1
    obtain ⟨f, hf⟩ : ∃ f, f = S'.length := ⟨_, rfl⟩
    rw [← hf]
    have k1 : (S' ++ [some (DO.dct [])])[i]? = some (some (.dct (kt seen))) := by rw [List.getElem?_append_left li]; exact g1
    have k2 : (S' ++ [some (DO.dct [])])[i + 1]? = some (some (.lst (Ls.map ringV))) := by rw [List.getElem?_append_left lj]; exact g2
    have k3 : (S' ++ [some (DO.dct [])])[f]? = some (some (.dct (kt []))) := by rw [hf]; simp [kt]
    have F2 : Fo [] S (S' ++ [some (DO.dct [])]) := F.trans (Fo.snoc _ _ _)
    have lS : S.length ≤ S'.length := F.1
    generalize S' ++ [some (DO.dct [])] = S2 at k1 k2 k3 F2 ⊢
    have hdl : d < Ls.length := by rw [R.len]; omega
    have p8 : 8 ^ d ≤ 8 ^ 6 := Nat.pow_le_pow_right (by decide) (by omega)
    have b1 := R.few d hdl
    have b2 := R.few2
    refine fIx_r k2 (v := ringV Ls[d]) ?_ ?_
    · exact atI_end (d := d) (by rw [List.length_map, R.len]) (by rw [List.getElem?_map, List.getElem?_eq_getElem hdl]; rfl)
    · unfold ringV
      simp only [STEPS, true_and]
      refine ring_out (by omega) hts Ls[d] seen [] _ _ _ S2 (fun a ha => ?_) k1 k3 (by simp) (by omega) (by simp; omega) fun d7 d8 d9 S3 seen' fresh' ef m1 m2 F3 => ?_
      · rw [wk_len G hs (((R.ring d hdl).2 a).mp ha).1]
        exact hg2
      · simp only [app3 r_rings_3_e, STEPS, true_and, List.map_cons, List.map_nil, List.length_cons, List.length_nil, List.cons_append, List.nil_append, List.set_cons_zero, List.set_cons_succ, List.replicate_zero, List.replicate_succ]
        have m3 : S3[i + 1]? = some (some (.lst (Ls.map ringV))) := F3.get (by simp; omega) k2
        obtain ⟨_, hnb, hfl⟩ := R.next hts hdl ef (List.Perm.refl _)
        have p9 : 8 ^ (d + 1) ≤ 8 ^ 6 := Nat.pow_le_pow_right (by decide) (by omega)
        refine ⟨tyM_l m3, sorted_x m2 (fun x hx => ?_) (by omega) ?_⟩
        · obtain ⟨y, hy, hxy⟩ := hnb x hx
          rw [nbr_len G (wk_len G hs (((R.ring d hdl).2 y).mp hy).1) hxy]
          exact hg
        · refine append_l m3 (by rw [List.length_map, R.len]; omega) ?_
          obtain ⟨R', _, _⟩ := R.next hts hdl ef (srtL_perm fresh')
          refine ih _ _ ⟨⟨_, _, _, _, _, rfl⟩, d + 1, _, _, R', rg_next R eR hdl ef, by omega, ?_, ?_, ?_⟩
          · rw [List.getElem?_set_ne (by omega)]
            exact m1
          · rw [List.getElem?_set_self (List.getElem?_eq_some_iff.mp m3).1, List.map_append]
            rfl
          · have F4 : Fo [] S S3 := F2.old F3 fun k hk => by
              have : k = i ∨ k = f := by simpa using hk
              omega
            exact F4.old (ks := [i + 1]) (Fo.set _ _ (by simp)) fun k hk => by
              have : k = i + 1 := by simpa using hk
              omega
end
end LS
namespace G_k03
open PySem PySem.Spec PyProof.Rows L2 DL PySem.W LB
abbrev rgP := LS.rgP
abbrev tV := LS.tV
section
variable {S : Store} {Q : MK DV} {E : MX} {D : EndsD} {ts : List Rl} {g : Nat}
/-! ### the law's own rings -/
theorem fo_mono {ks : List Nat} {S S' : Store} (F : LB.Fo [] S S') : LB.Fo ks S S' := ⟨F.1, fun k _ hl => F.2 k (by simp) hl⟩
theorem subI_memX : ∀ {a b : List Int} {x : Int}, x ∈ subI a b → ∃ y z, y ∈ a ∧ z ∈ b ∧ x = y - z
  | [], b, x, h => by simp [subI_0] at h
  | y :: a, [], x, h => by simp [subI_n] at h
  | y :: a, z :: b, x, h => by
    rcases List.mem_cons.mp (show x ∈ (y - z) :: subI a b from h) with e | e
    · exact ⟨y, z, List.mem_cons_self, List.mem_cons_self, e⟩
    · obtain ⟨u, v, h1, h2, h3⟩ := subI_memX e
      exact ⟨u, v, List.mem_cons_of_mem _ h1, List.mem_cons_of_mem _ h2, h3⟩
theorem lk_get : ∀ (kvs : List (List Int × DV)) (x : List Int), (getK kvs x).isSome = decide (x ∈ kvs.map Prod.fst)
  | [], x => by simp [getK]
  | (y, v) :: l, x => by
    unfold getK
    by_cases h : y = x
    · simp [h]
    · rw [if_neg h, lk_get l x]
      have : ¬ x = y := fun z => h z.symm
      simp [this]
theorem lring_in {i f : Nat} {n : Int} {d0 d1 d2 d4 d7 : Option DV} (hif : i ≠ f) : ∀ (l : List (List Int)) (kvs : List (List Int × DV)) (fresh : List (List Int)) (d8 : Option DV) (S : Store), S[i]? = some (some (.dct kvs)) → S[f]? = some (some (.lst (fresh.map tV))) → kvs.length + l.length < 16000000 → fresh.length + l.length < 16000000 →
    (∀ d8 S' kvs' fresh', l.foldl add1 (kvs.map Prod.fst, fresh) = (kvs'.map Prod.fst, fresh') → S'[i]? = some (some (.dct kvs')) → S'[f]? = some (some (.lst (fresh'.map tV))) → LB.Fo [i, f] S S' → D.nx [d0, d1, d2, some (.ref i), d4, some (.int n), some (.ref f), d7, d8] S') →
    forGo (gTg (.nm 8)) f__law_rings_1 D (l.map tV) [d0, d1, d2, some (.ref i), d4, some (.int n), some (.ref f), d7, d8] S
  | [], kvs, fresh, d8, S, hi, hf, _, _, q => q d8 S kvs fresh rfl hi hf (LB.Fo.refl _ _)
  | y :: l, kvs, fresh, d8, S, hi, hf, h1, h2, q => by
    rw [List.length_cons] at h1 h2
    rw [List.map_cons, show tV y = DV.tup (intsV y) from rfl]
    simp only [forGo_c, app3 f__law_rings_1_e, STEPS, true_and, List.map_cons, List.map_nil, List.length_cons, List.length_nil, List.cons_append, List.nil_append, List.set_cons_zero, List.set_cons_succ, List.replicate_zero, List.replicate_succ]
    refine ⟨i, kvs, y, rfl, hi, rfl, ?_⟩
    rw [lk_get]
    by_cases h : y ∈ kvs.map Prod.fst
    · simp only [decide_eq_true h, Bool.not_true, STEPS, true_and]
      refine lring_in hif l kvs fresh _ S hi hf (by omega) (by omega) fun d8 S' kvs' fresh' ef => q d8 S' kvs' fresh' ?_
      rw [List.foldl_cons, show add1 (kvs.map Prod.fst, fresh) y = (kvs.map Prod.fst, fresh) from if_pos h]
      exact ef
    · simp only [decide_eq_false h, Bool.not_false, STEPS, true_and, LS.mDPut_e, List.map_cons, List.map_nil, List.length_cons, List.length_nil, List.cons_append, List.nil_append, List.set_cons_zero, List.set_cons_succ, List.replicate_zero, List.replicate_succ]
      refine ⟨i, kvs, y, rfl, hi, rfl, LS.getK_non h, by omega, ?_⟩
      have li := (List.getElem?_eq_some_iff.mp hi).1
      have lf := (List.getElem?_eq_some_iff.mp hf).1
      have hf1 : (S.set i (some (.dct (kvs ++ [(y, .int (n + 1))]))))[f]? = some (some (.lst (fresh.map tV))) := by rw [List.getElem?_set_ne hif]; exact hf
      simp only [app3 r__law_rings_1_e, STEPS, true_and, List.map_cons, List.map_nil, List.length_cons, List.length_nil, List.cons_append, List.nil_append, List.set_cons_zero, List.set_cons_succ, List.replicate_zero, List.replicate_succ]
      refine ⟨LB.tyM_l hf1, LB.append_l hf1 (by rw [List.length_map]; omega) ?_⟩
      refine lring_in hif l (kvs ++ [(y, .int (n + 1))]) (fresh ++ [y]) _ _ ?_ ?_ (by simp; omega) (by simp; omega) fun d8 S' kvs' fresh' ef hi' hf' F' => q d8 S' kvs' fresh' ?_ hi' hf' (((LB.Fo.set S _ (by simp)).trans (LB.Fo.set _ _ (by simp))).trans F')
      · rw [List.getElem?_set_ne (Ne.symm hif), List.getElem?_set_self li]
      · rw [List.getElem?_set_self (by rw [List.length_set]; exact lf), List.map_append]
        rfl
      · rw [List.foldl_cons, show add1 (kvs.map Prod.fst, fresh) y = (kvs.map Prod.fst ++ [y], fresh ++ [y]) from if_neg h]
        rw [List.map_append] at ef
        exact ef
theorem lring_out {i f : Nat} {n : Int} {d1 d2 d4 : Option DV} (hif : i ≠ f) (hts : ts.length ≤ 4) : ∀ (ring : List (List Int)) (kvs : List (List Int × DV)) (fresh : List (List Int)) (d7 d8 : Option DV) (S : Store), (∀ a ∈ ring, a.length ≤ 1000) → S[i]? = some (some (.dct kvs)) → S[f]? = some (some (.lst (fresh.map tV))) → kvs.length + 8 * ring.length < 16000000 → fresh.length + 8 * ring.length < 16000000 →
    (∀ d7 d8 S' kvs' fresh', (ring.flatMap (nbrs ts)).foldl add1 (kvs.map Prod.fst, fresh) = (kvs'.map Prod.fst, fresh') → S'[i]? = some (some (.dct kvs')) → S'[f]? = some (some (.lst (fresh'.map tV))) → LB.Fo [i, f] S S' → D.nx [some (.tup (rsV ts)), d1, d2, some (.ref i), d4, some (.int n), some (.ref f), d7, d8] S') →
    forGo (gTg (.nm 7)) f__law_rings_2 D (ring.map tV) [some (.tup (rsV ts)), d1, d2, some (.ref i), d4, some (.int n), some (.ref f), d7, d8] S
  | [], kvs, fresh, d7, d8, S, _, hi, hf, _, _, q => q d7 d8 S kvs fresh rfl hi hf (LB.Fo.refl _ _)
  | old :: ring, kvs, fresh, d7, d8, S, ho, hi, hf, h1, h2, q => by
    rw [List.length_cons] at h1 h2
    rw [List.map_cons, show tV old = DV.tup (intsV old) from rfl]
    simp only [forGo_c, app3 f__law_rings_2_e, STEPS, true_and, List.map_cons, List.map_nil, List.length_cons, List.length_nil, List.cons_append, List.nil_append, List.set_cons_zero, List.set_cons_succ, List.replicate_zero, List.replicate_succ]
    refine around_ok (ho old List.mem_cons_self) (by omega) fun S1 F1 => ?_
    simp only [STEPS, true_and, List.map_cons, List.map_nil, List.length_cons, List.length_nil, List.cons_append, List.nil_append, List.set_cons_zero, List.set_cons_succ, List.replicate_zero, List.replicate_succ]
    have ln := nbrs_len ts old
    have hi1 : S1[i]? = some (some (.dct kvs)) := F1.get (by simp) hi
    have hf1 : S1[f]? = some (some (.lst (fresh.map tV))) := F1.get (by simp) hf
    refine lring_in (D := { D with nx := forGo (gTg (.nm 7)) f__law_rings_2 D (ring.map tV), ct := forGo (gTg (.nm 7)) f__law_rings_2 D (ring.map tV), bk := D.nx }) hif (nbrs ts old) kvs fresh _ S1 hi1 hf1 (by omega) (by omega) fun d8 S' kvs' fresh' ef hi' hf' F' => ?_
    obtain ⟨new, e1, _, e3, e4⟩ := add_spec (nbrs ts old) (kvs.map Prod.fst) fresh
    rw [ef] at e1
    obtain ⟨k1, k2⟩ := Prod.mk.inj e1
    have l1 : kvs'.length = kvs.length + new.length := by
      have := congrArg List.length k1
      simpa using this
    have l2 : fresh'.length = fresh.length + new.length := by rw [k2, List.length_append]
    refine lring_out hif hts ring kvs' fresh' _ _ S' (fun a ha => ho a (List.mem_cons_of_mem _ ha)) hi' hf' (by omega) (by omega) fun d7 d8 S2 s2 f2 ef2 hi2 hf2 F2 => q d7 d8 S2 s2 f2 ?_ hi2 hf2 (((fo_mono F1).trans F').trans F2)
    rw [List.flatMap_cons, List.foldl_append, ← ef2, ← ef]
theorem lrings_ok {n : Nat} {s : List Int} (G : Gd g ts) (hg : 1 ≤ g) (hg2 : g ≤ 1000) (hs : s.length = g) (hts : ts.length ≤ 4) (hn : n ≤ 6) (q : ∀ S', LB.Fo [] S S' → Q (.lst ((rgP ts s n).1.map LS.ringV)) S') : m__law_rings [.tup (rsV ts), .tup (intsV s), .int n] S Q E := by
  simp only [app4 m__law_rings_e, app3 b__law_rings_e, STEPS, true_and, List.map_cons, List.map_nil, List.length_cons, List.length_nil, List.cons_append, List.nil_append, List.set_cons_zero, List.set_cons_succ, List.replicate_zero, List.replicate_succ, LS.mDctO1_e]
  refine ⟨s, rfl, ?_⟩
  obtain ⟨i, hi⟩ : ∃ i, i = S.length := ⟨_, rfl⟩
  have hj : (S ++ [some (DO.dct [(s, DV.int 0)])]).length = i + 1 := by simp [hi]
  rw [hj, ← hi]
  have F0 : LB.Fo [] S (S ++ [some (DO.dct [(s, DV.int 0)])] ++ [some (DO.lst [DV.lst [DV.tup (intsV s)]])]) := (LB.Fo.snoc _ _ _).trans (LB.Fo.snoc _ _ _)
  have h1 : (S ++ [some (DO.dct [(s, DV.int 0)])] ++ [some (DO.lst [DV.lst [DV.tup (intsV s)]])])[i]? = some (some (.dct [(s, DV.int 0)])) := by
    rw [List.getElem?_append_left (by simp [hi]), hi]
    simp
  have h2 : (S ++ [some (DO.dct [(s, DV.int 0)])] ++ [some (DO.lst [DV.lst [DV.tup (intsV s)]])])[i + 1]? = some (some (.lst ([[s]].map LS.ringV))) := by
    rw [← hj]
    simp [LS.ringV]
  generalize S ++ [some (DO.dct [(s, DV.int 0)])] ++ [some (DO.lst [DV.lst [DV.tup (intsV s)]])] = S1 at F0 h1 h2 ⊢
  have R0 : LS.Rg ts s 0 [[s]] [s] := ⟨rfl, fun e h => by
      have : e = 0 := by simpa using h
      subst this
      exact ⟨by simp, fun x => by simp [ds_0]⟩, fun x => by
      rw [List.mem_singleton]
      exact ⟨fun h => ⟨0, Nat.le_refl _, ds_0.mpr h⟩, fun ⟨e, he, h⟩ => by
        have : e = 0 := by omega
        subst this
        exact ds_0.mp h⟩, fun e h => by
      have : e = 0 := by simpa using h
      subst this
      simp, by simp, by simp⟩
  simp only [app3 r__law_rings_5_e, STEPS, true_and, List.map_cons, List.map_nil, List.length_cons, List.length_nil, List.cons_append, List.nil_append, List.set_cons_zero, List.set_cons_succ, List.replicate_zero, List.replicate_succ]
  refine ⟨by omega, by omega, ?_⟩
  refine forGo_ind (fun xs δ S' => (∃ d5 d6 d7 d8, δ = [some (.tup (rsV ts)), some (.tup (intsV s)), some (.int n), some (.ref i), some (.ref (i + 1)), d5, d6, d7, d8]) ∧ (∀ x ∈ xs, ∃ k : Int, x = .int k) ∧ ∃ d Ls kvs, LS.Rg ts s d Ls (kvs.map Prod.fst) ∧ rgP ts s d = (Ls, kvs.map Prod.fst) ∧ d + xs.length = n ∧ S'[i]? = some (some (.dct kvs)) ∧ S'[i + 1]? = some (some (.lst (Ls.map LS.ringV))) ∧ LB.Fo [] S S') ?hn ?hs _ _ _ ⟨⟨_, _, _, _, rfl⟩, fun x hx => ?_, 0, _, _, R0, rfl, by rw [rngD_len]; omega, h1, h2, F0⟩
  case hn =>
    rintro δ S' ⟨⟨d5, d6, d7, d8, rfl⟩, _, d, Ls, kvs, R, eR, hd, g1, g2, F⟩
    have : d = n := by simpa using hd
    subst this
    simp only [app3 r__law_rings_4_e, STEPS, true_and, List.map_cons, List.map_nil, List.length_cons, List.length_nil, List.cons_append, List.nil_append, List.set_cons_zero, List.set_cons_succ, List.replicate_zero, List.replicate_succ, LS.mFz_e]
    refine ⟨i + 1, _, rfl, g2, ?_⟩
    have eL : Ls = (rgP ts s d).1 := by rw [eR]
    rw [eL]
    refine q _ ?_
    exact F.old (ks := [i + 1]) (LB.Fo.set _ _ (by simp)) (fun k hk => by
      have : k = i + 1 := by simpa using hk
      omega)
  case hs =>
    rintro x xs δ S' ⟨⟨d5, d6, d7, d8, rfl⟩, hx, d, Ls, kvs, R, eR, hd, g1, g2, F⟩ ih
    rw [List.length_cons] at hd
    obtain ⟨kk, rfl⟩ := hx x List.mem_cons_self
    simp only [forGo_c, STEPS, true_and, List.map_cons, List.map_nil, List.length_cons, List.length_nil, List.cons_append, List.nil_append, List.set_cons_zero, List.set_cons_succ, List.replicate_zero, List.replicate_succ, app3 f__law_rings_3_e, app3 r__law_rings_3_e]
    have li := (List.getElem?_eq_some_iff.mp g1).1
    have lj := (List.getElem?_eq_some_iff.mp g2).1
    obtain ⟨f, hf⟩ : ∃ f, f = S'.length := ⟨_, rfl⟩
    rw [← hf]
    have k1 : (S' ++ [some (DO.lst [])])[i]? = some (some (.dct kvs)) := by rw [List.getElem?_append_left li]; exact g1
    have k2 : (S' ++ [some (DO.lst [])])[i + 1]? = some (some (.lst (Ls.map LS.ringV))) := by rw [List.getElem?_append_left lj]; exact g2
    have k3 : (S' ++ [some (DO.lst [])])[f]? = some (some (.lst (([] : List (List Int)).map tV))) := by rw [hf]; simp
    have F2 : LB.Fo [] S (S' ++ [some (DO.lst [])]) := F.trans (LB.Fo.snoc _ _ _)
    have lS : S.length ≤ S'.length := F.1
    generalize S' ++ [some (DO.lst [])] = S2 at k1 k2 k3 F2 ⊢
    have hdl : d < Ls.length := by rw [R.len]; omega
    have p8 : 8 ^ d ≤ 8 ^ 6 := Nat.pow_le_pow_right (by decide) (by omega)
    have b1 := R.few d hdl
    have b2 := R.few2
    rw [List.length_map] at b2
    refine LS.fIx_r k2 (v := LS.ringV Ls[d]) ?_ ?_
    · exact LS.atI_end (d := d) (by rw [List.length_map, R.len]) (by rw [List.getElem?_map, List.getElem?_eq_getElem hdl]; rfl)
    · unfold LS.ringV
      simp only [STEPS, true_and]
      refine lring_out (by omega) hts Ls[d] kvs [] _ _ S2 (fun a ha => ?_) k1 k3 (by omega) (by simp; omega) fun d7 d8 S3 kvs' fresh' ef m1 m2 F3 => ?_
      · rw [wk_len G hs (((R.ring d hdl).2 a).mp ha).1]
        exact hg2
      · simp only [app3 r__law_rings_2_e, STEPS, true_and, List.map_cons, List.map_nil, List.length_cons, List.length_nil, List.cons_append, List.nil_append, List.set_cons_zero, List.set_cons_succ, List.replicate_zero, List.replicate_succ, LS.mFz_e]
        have m3 : S3[i + 1]? = some (some (.lst (Ls.map LS.ringV))) := F3.get (by simp; omega) k2
        obtain ⟨R', hnb, hfl⟩ := R.next hts hdl ef (LS.srtL_perm fresh')
        have p9 : 8 ^ (d + 1) ≤ 8 ^ 6 := Nat.pow_le_pow_right (by decide) (by omega)
        refine ⟨LS.tyM_l m3, f, _, rfl, m2, LS.sorted_l (fun x hx => ?_) (by omega) ?_⟩
        · obtain ⟨y, hy, hxy⟩ := hnb x hx
          rw [nbr_len G (wk_len G hs (((R.ring d hdl).2 y).mp hy).1) hxy]
          exact hg
        · have m4 : (S3.set f none)[i + 1]? = some (some (.lst (Ls.map LS.ringV))) := by rw [List.getElem?_set_ne (by omega)]; exact m3
          have m5 : (S3.set f none)[i]? = some (some (.dct kvs')) := by rw [List.getElem?_set_ne (by omega)]; exact m1
          have F5 : LB.Fo [] S (S3.set f none) := F2.old (F3.trans (LB.Fo.set _ _ (by simp))) fun k hk => by
            have : k = i ∨ k = f := by simpa using hk
            omega
          refine LS.append_l m4 (by rw [List.length_map, R.len]; omega) ?_
          refine ih _ _ ⟨⟨_, _, _, _, rfl⟩, fun x hx' => hx x (List.mem_cons_of_mem _ hx'), d + 1, _, _, R', LS.rg_next R eR hdl ef, by omega, ?_, ?_, ?_⟩
          · rw [List.getElem?_set_ne (by omega)]
            exact m5
          · rw [List.getElem?_set_self (List.getElem?_eq_some_iff.mp m4).1, List.map_append]
            rfl
          · exact F5.old (ks := [i + 1]) (LB.Fo.set _ _ (by simp)) fun k hk => by
              have : k = i + 1 := by simpa using hk
              omega
  · obtain ⟨j, hj⟩ := List.getElem?_of_mem hx
    by_cases c : j < ((n : Int)).toNat
    · rw [rngD_get 0 _ j c] at hj
      exact ⟨_, (Option.some.inj hj).symm⟩
    · rw [List.getElem?_eq_none (by rw [rngD_len]; omega)] at hj
      cases hj
/-! ### what is near -/
def pr (e : Nat) (x : List Int) : DV := .tup [.int e, .tup (intsV x)]
def prs : Nat → List (List (List Int)) → List DV
  | _, [] => []
  | e, L :: Ls => L.map (pr e) ++ prs (e + 1) Ls
theorem prs_snoc (L : List (List Int)) : ∀ (A : List (List (List Int))) (e : Nat), prs e (A ++ [L]) = prs e A ++ L.map (pr (e + A.length))
  | [], e => by simp [prs]
  | K :: A, e => by
    rw [List.cons_append, prs, prs_snoc L A (e + 1), prs, List.append_assoc, List.length_cons]
    congr 4
    omega
theorem prs_len : ∀ (A : List (List (List Int))) (e : Nat), (prs e A).length = (A.map List.length).sum
  | [], e => rfl
  | K :: A, e => by
    rw [prs, List.length_append, prs_len A, List.length_map]
    simp
theorem forGoG_c {gg : MG} {tb : MGn} {DD : List DV → DEnv → Store → Prop} {x : DV} {xs ys : List DV} {δ : DEnv} : forGoG gg tb DD (x :: xs) ys δ S = gg x δ S fun δ1 S1 => tb (fun ys' δ' S' => forGoG gg tb DD xs ys' δ' S') ys δ1 S1 := id rfl
section
variable {DD : List DV → DEnv → Store → Prop} {ys : List DV} {δ : DEnv}
theorem y1 : f_each_near_1 DD ys δ S = (ys.length < 16777216 ∧ mTup (mCons (mVar 3) (mCons (mVar 5) mNil)) δ S (fun d S1 => DD (ys ++ [d]) δ S1) noE) := by
  rw [f_each_near_1_e]
  rfl
theorem y2 : f_each_near_2 DD ys δ S = iS (mVar 4) δ S (fun xs S1 => forGoG (gTg (.nm 5)) f_each_near_1 DD xs ys δ S1) noE := by
  rw [f_each_near_2_e]
  rfl
theorem y3 {ds : List DV} {Qg : List DV → Store → Prop} : m_each_near ds S Qg = iE (mCons (mCallF 3 m_rings (mCons (mVar 0) (mCons (mVar 1) (mCons (mVar 2) mNil)))) mNil) (startD 6 ds) S (fun xs S1 => forGoG (gTg (.tp [(.nm 3), (.nm 4)])) f_each_near_2 (fun ys _ S' => Qg ys S') xs [] (startD 6 ds) S1) noE := by
  rw [m_each_near_e, b_each_near_e]
  rfl
end
theorem near_in {e : Nat} {d0 d1 d2 d4 : Option DV} {DD : List DV → DEnv → Store → Prop} : ∀ (L : List (List Int)) (ys : List DV) (d5 : Option DV), ys.length + L.length < 16000000 → (∀ d5, DD (ys ++ L.map (pr e)) [d0, d1, d2, some (.int e), d4, d5] S) →
    forGoG (gTg (.nm 5)) f_each_near_1 DD (L.map fun x => DV.tup (intsV x)) ys [d0, d1, d2, some (.int e), d4, d5] S
  | [], ys, d5, _, q => by
    have z : DD (ys ++ []) [d0, d1, d2, some (.int e), d4, d5] S := q d5
    rw [List.append_nil] at z
    exact z
  | x :: L, ys, d5, hl, q => by
    rw [List.length_cons] at hl
    simp only [List.map_cons, forGoG_c, y1, STEPS, true_and, List.map_cons, List.map_nil, List.length_cons, List.length_nil, List.cons_append, List.nil_append, List.set_cons_zero, List.set_cons_succ, List.replicate_zero, List.replicate_succ]
    refine ⟨by omega, near_in L _ _ (by simp; omega) fun d5 => ?_⟩
    have z := q d5
    rw [List.map_cons] at z
    rw [List.append_assoc]
    exact z
theorem near_out {d0 d1 d2 : Option DV} {DD : List DV → DEnv → Store → Prop} : ∀ (Ls : List (List (List Int))) (e : Nat) (ys : List DV) (d3 d4 d5 : Option DV), ys.length + (Ls.map List.length).sum < 16000000 → (∀ d3 d4 d5, DD (ys ++ prs e Ls) [d0, d1, d2, d3, d4, d5] S) →
    forGoG (gTg (.tp [(.nm 3), (.nm 4)])) f_each_near_2 DD (enum e (Ls.map LS.ringV)) ys [d0, d1, d2, d3, d4, d5] S
  | [], e, ys, d3, d4, d5, _, q => by
    have z : DD (ys ++ []) [d0, d1, d2, d3, d4, d5] S := q d3 d4 d5
    rw [List.append_nil] at z
    exact z
  | L :: Ls, e, ys, d3, d4, d5, hl, q => by
    rw [List.map_cons, List.sum_cons] at hl
    rw [List.map_cons]
    show forGoG _ _ _ (.tup [.int (e : Int), LS.ringV L] :: enum (e + 1) (Ls.map LS.ringV)) _ _ _
    simp only [forGoG_c, y2, STEPS, true_and, List.map_cons, List.map_nil, List.length_cons, List.length_nil, List.cons_append, List.nil_append, List.set_cons_zero, List.set_cons_succ, List.replicate_zero, List.replicate_succ]
    unfold LS.ringV
    simp only [STEPS, true_and, List.map_cons, List.map_nil, List.length_cons, List.length_nil, List.cons_append, List.nil_append, List.set_cons_zero, List.set_cons_succ, List.replicate_zero, List.replicate_succ]
    refine near_in L ys _ (by omega) fun d5 => ?_
    refine near_out Ls (e + 1) _ _ _ _ (by rw [List.length_append, List.length_map]; omega) fun d3 d4 d5 => ?_
    have z := q d3 d4 d5
    rw [List.append_assoc]
    exact z
theorem near_ok {n : Nat} {s : List Int} {Qg : List DV → Store → Prop} (G : Gd g ts) (hg : 1 ≤ g) (hg2 : g ≤ 1000) (hs : s.length = g) (hts : ts.length ≤ 4) (hn : n ≤ 6) (hc : ((rgP ts s n).1.map List.length).sum < 1000000) (q : ∀ S', LS.Fo [] S S' → Qg (prs 0 (rgP ts s n).1) S') : m_each_near [mV g ts, .tup (intsV s), .int n] S Qg := by
  rw [y3]
  show iE _ [some (mV g ts), some (.tup (intsV s)), some (.int n), none, none, none] S _ _
  simp only [STEPS, true_and, List.map_cons, List.map_nil, List.length_cons, List.length_nil, List.cons_append, List.nil_append, List.set_cons_zero, List.set_cons_succ, List.replicate_zero, List.replicate_succ]
  refine LS.rings_x G hg hg2 hs hts hn fun S' F => ?_
  simp only [STEPS, true_and, List.map_cons, List.map_nil, List.length_cons, List.length_nil, List.cons_append, List.nil_append, List.set_cons_zero, List.set_cons_succ, List.replicate_zero, List.replicate_succ]
  refine near_out _ 0 [] _ _ _ (by simpa using Nat.lt_trans hc (by decide)) fun d3 d4 d5 => ?_
  rw [List.nil_append]
  exact q S' F
/-! ### how many, how great -/
theorem flat_len (ts : List Rl) : ∀ l : List (List Int), (l.flatMap (nbrs ts)).length ≤ 2 * ts.length * l.length
  | [] => by simp
  | x :: l => by
    rw [List.flatMap_cons, List.length_append, List.length_cons, Nat.mul_succ]
    have := nbrs_len ts x
    have := flat_len ts l
    omega
theorem rg_few (ts : List Rl) (s : List Int) : ∀ n : Nat, ((rgP ts s n).1.getLastD []).length ≤ (rgP ts s n).2.length ∧ (rgP ts s n).2.length ≤ (2 * ts.length + 1) ^ n ∧ ((rgP ts s n).1.map List.length).sum = (rgP ts s n).2.length
  | 0 => by simp [rgP, LS.rgP]
  | n + 1 => by
    obtain ⟨h1, h2, h3⟩ := rg_few ts s n
    have fl := flat_len ts ((rgP ts s n).1.getLastD [])
    obtain ⟨new, e1, _, _, e4⟩ := add_spec (((rgP ts s n).1.getLastD []).flatMap (nbrs ts)) (rgP ts s n).2 []
    have e : rgP ts s (n + 1) = ((rgP ts s n).1 ++ [LS.srtL new], (rgP ts s n).2 ++ new) := by
      show ((rgP ts s n).1 ++ [LS.srtL ((((rgP ts s n).1.getLastD []).flatMap (nbrs ts)).foldl add1 ((rgP ts s n).2, [])).2], ((((rgP ts s n).1.getLastD []).flatMap (nbrs ts)).foldl add1 ((rgP ts s n).2, [])).1) = _
      rw [e1]
      rfl
    have lp : (LS.srtL new).length = new.length := (LS.srtL_perm new).length_eq
    have hm : 2 * ts.length * ((rgP ts s n).1.getLastD []).length ≤ 2 * ts.length * (2 * ts.length + 1) ^ n := Nat.mul_le_mul_left _ (Nat.le_trans h1 h2)
    rw [e]
    refine ⟨?_, ?_, ?_⟩
    · rw [List.getLastD_eq_getLast?, List.getLast?_append]
      simp
      omega
    · show ((rgP ts s n).2 ++ new).length ≤ _
      rw [List.length_append, Nat.pow_succ, Nat.mul_add, Nat.mul_one, Nat.mul_comm ((2 * ts.length + 1) ^ n)]
      omega
    · show (((rgP ts s n).1 ++ [LS.srtL new]).map List.length).sum = ((rgP ts s n).2 ++ new).length
      rw [List.map_append, List.sum_append, h3, List.length_append]
      simp [lp]
theorem aft_small {a c : List Int} {m : Mv} {B : Nat} (h : ∀ r ∈ ts, GoodT g 4 r) (e : aft ts a m = some c) (ha : ∀ x ∈ a, x.natAbs ≤ B) : ∀ x ∈ c, x.natAbs ≤ B + 6 := by
  unfold aft at e
  split at e
  · rename_i r er
    have hr := h r (List.mem_of_getElem? er)
    unfold aftR at e
    split at e
    · cases e
      have h0 : ∀ b : Bool, (∀ x ∈ tkS r b, 0 ≤ x ∧ x ≤ 3) ∧ ∀ x ∈ ptS r b, 0 ≤ x ∧ x ≤ 3 := fun b => by
        cases b <;> exact ⟨fun x hx => by first | exact hr.a1 x hx | exact hr.a2 x hx, fun x hx => by first | exact hr.a1 x hx | exact hr.a2 x hx⟩
      intro x hx
      obtain ⟨y, z, hy, hz, rfl⟩ := addI_mem hx
      obtain ⟨u, v, hu, hv, rfl⟩ := subI_memX hy
      have i1 := ha u hu
      have i2 := (h0 m.2).1 v hv
      have i3 := (h0 m.2).2 z hz
      omega
    · cases e
  · cases e
theorem wk_small {s : List Int} (h : ∀ r ∈ ts, GoodT g 4 r) : ∀ {n : Nat} {x : List Int} {B : Nat}, (∀ y ∈ s, y.natAbs ≤ B) → Wk ts n s x → ∀ y ∈ x, y.natAbs ≤ B + 6 * n
  | 0, x, B, hs, w, y, hy => by
    have e : s = x := w
    rw [← e] at hy
    have := hs y hy
    omega
  | n + 1, x, B, hs, w, y, hy => by
    obtain ⟨c, w1, hc⟩ := wk_last w
    obtain ⟨m, em⟩ := mem_nbrs.mp hc
    have := aft_small h em (fun z hz => wk_small h hs w1 z hz) y hy
    omega
def prP (e : Nat) (x : List Int) : PyData := .tuple [.int e, .tuple (pI x)]
def prsP : Nat → List (List (List Int)) → List PyData
  | _, [] => []
  | e, L :: Ls => L.map (prP e) ++ prsP (e + 1) Ls
theorem toPs_append : ∀ {ds es : List DV} {ps qs : List PyData}, toPs ds = some ps → toPs es = some qs → toPs (ds ++ es) = some (ps ++ qs)
  | [], es, ps, qs, h1, h2 => by
    cases h1
    exact h2
  | d :: ds, es, ps, qs, h1, h2 => by
    obtain ⟨p, ps', e1, e2, rfl⟩ := toPs_inv h1
    exact toPs_cons e1 (toPs_append e2 h2)
theorem toPs_pr (e : Nat) : ∀ L : List (List Int), toPs (L.map (pr e)) = some (L.map (prP e))
  | [] => rfl
  | x :: L => toPs_cons (toP_tup (toPs_cons rfl (toPs_cons (toP_it x) rfl))) (toPs_pr e L)
theorem toPs_prs : ∀ (Ls : List (List (List Int))) (e : Nat), toPs (prs e Ls) = some (prsP e Ls)
  | [], e => rfl
  | L :: Ls, e => toPs_append (toPs_pr e L) (toPs_prs Ls (e + 1))
theorem bnd_app : ∀ {ps qs : List PyData}, bndAll ps = true → bndAll qs = true → bndAll (ps ++ qs) = true
  | [], qs, _, h => h
  | p :: ps, qs, h1, h2 => by
    rw [bndAll, Bool.and_eq_true] at h1
    rw [List.cons_append, bndAll, h1.1, bnd_app h1.2 h2]
    rfl
theorem sz_app : ∀ {ps qs : List PyData}, szAll (ps ++ qs) = szAll ps + szAll qs
  | [], qs => by simp [szAll]
  | p :: ps, qs => by
    rw [List.cons_append, szAll, szAll, sz_app]
    omega
theorem dep_app : ∀ {ps qs : List PyData} {k : Nat}, PyData.depthAll ps ≤ k → PyData.depthAll qs ≤ k → PyData.depthAll (ps ++ qs) ≤ k
  | [], qs, k, _, h => h
  | p :: ps, qs, k, h1, h2 => by
    simp only [List.cons_append, PyData.depthAll] at h1 ⊢
    have := dep_app (ps := ps) (qs := qs) (k := k) (by omega) h2
    omega
theorem one_pr {e : Nat} (he : e < 1000) : ∀ L : List (List Int), (∀ x ∈ L, Sml x) → bndAll (L.map (prP e)) = true ∧ szAll (L.map (prP e)) ≤ 10000 * L.length ∧ PyData.depthAll (L.map (prP e)) ≤ 2
  | [], _ => ⟨by simp [bndAll], by simp [szAll], by simp [PyData.depthAll]⟩
  | x :: L, h => by
    obtain ⟨h1, h2, h3⟩ := one_pr he L fun y hy => h y (List.mem_cons_of_mem _ hy)
    obtain ⟨l1, a1⟩ := h x List.mem_cons_self
    refine ⟨?_, ?_, ?_⟩
    · have hi : bndP (.int (e : Int)) = true := by rw [bndP]; exact decide_eq_true (by omega)
      rw [List.map_cons, bndAll, h1]
      simp [prP, bndP, bndAll, bndAll_ints a1] at hi ⊢
      exact hi
    · rw [List.map_cons, szAll]
      simp only [prP, szP, szAll, szAll_ints, List.length_cons]
      omega
    · simp only [List.map_cons, PyData.depthAll, prP, PyData.depth, DL.depthAll_ints]
      omega
theorem all_pr : ∀ (Ls : List (List (List Int))) (e : Nat), e + Ls.length < 1000 → (∀ L ∈ Ls, ∀ x ∈ L, Sml x) → bndAll (prsP e Ls) = true ∧ szAll (prsP e Ls) ≤ 10000 * (Ls.map List.length).sum ∧ PyData.depthAll (prsP e Ls) ≤ 2
  | [], e, _, _ => ⟨by simp [prsP, bndAll], by simp [prsP, szAll], by simp [prsP, PyData.depthAll]⟩
  | L :: Ls, e, he, h => by
    rw [List.length_cons] at he
    obtain ⟨h1, h2, h3⟩ := one_pr (e := e) (by omega) L (h L List.mem_cons_self)
    obtain ⟨k1, k2, k3⟩ := all_pr Ls (e + 1) (by omega) fun K hK => h K (List.mem_cons_of_mem _ hK)
    refine ⟨bnd_app h1 k1, ?_, dep_app h3 k3⟩
    rw [prsP, sz_app, List.map_cons, List.sum_cons]
    omega
theorem prs_repr {Ls : List (List (List Int))} (hl : Ls.length < 100) (hc : (Ls.map List.length).sum ≤ 1000) (h : ∀ L ∈ Ls, ∀ x ∈ L, Sml x) : ∃ P, toP (.lst (prs 0 Ls)) = some P ∧ reprOk P := by
  obtain ⟨h1, h2, h3⟩ := all_pr Ls 0 (by omega) h
  refine ⟨_, toP_lst (toPs_prs Ls 0), reprOk_of ?_ ?_ ?_⟩
  · simp only [bndP, h1]
  · simp only [PyData.depth]
    omega
  · simp only [szP]
    omega
theorem rg_sml {s : List Int} {n : Nat} (G : Gd g ts) (h : ∀ r ∈ ts, GoodT g 4 r) (hg : g ≤ 4) (hs : s.length = g) (h6 : ∀ y ∈ s, y.natAbs ≤ 6) (hn : n ≤ 6) (hts : ts.length ≤ 4) (hg1 : 1 ≤ g) : (rgP ts s n).1.length = n + 1 ∧ ∀ L ∈ (rgP ts s n).1, ∀ x ∈ L, Sml x := by
  have key : ∀ d, d ≤ 6 → ∃ Ls seen, rgP ts s d = (Ls, seen) ∧ LS.Rg ts s d Ls seen := by
    intro d
    induction d with
    | zero =>
      intro _
      exact ⟨[[s]], [s], rfl, rfl, fun e h => by
        have : e = 0 := by simpa using h
        subst this
        exact ⟨by simp, fun x => by simp [ds_0]⟩, fun x => by
        rw [List.mem_singleton]
        exact ⟨fun h => ⟨0, Nat.le_refl _, ds_0.mpr h⟩, fun ⟨e, he, h⟩ => by
          have : e = 0 := by omega
          subst this
          exact ds_0.mp h⟩, fun e h => by
        have : e = 0 := by simpa using h
        subst this
        simp, by simp, by simp⟩
    | succ d ih =>
      intro hd
      obtain ⟨Ls, seen, eR, R⟩ := ih (by omega)
      have hdl : d < Ls.length := by rw [R.len]; omega
      obtain ⟨R', _, _⟩ := R.next hts hdl (seen' := (((Ls[d]).flatMap (nbrs ts)).foldl add1 (seen, [])).1) (fresh' := (((Ls[d]).flatMap (nbrs ts)).foldl add1 (seen, [])).2) rfl (LS.srtL_perm _)
      exact ⟨_, _, LS.rg_next R eR hdl rfl, R'⟩
  obtain ⟨Ls, seen, eR, R⟩ := key n hn
  rw [eR]
  refine ⟨R.len, fun L hL x hx => ?_⟩
  obtain ⟨k, hk, rfl⟩ := List.getElem_of_mem hL
  have w := ((R.ring k hk).2 x).mp hx
  have hk' : k < n + 1 := by rw [← R.len]; exact hk
  refine ⟨?_, fun y hy => ?_⟩
  · rw [wk_len G hs w.1]
    omega
  · have := wk_small h h6 w.1 y hy
    omega
/-! ### the law -/
theorem mListG_3 {a b c : ME} {m : GG} {δ : DEnv} : mListG 3 m (mCons a (mCons b (mCons c mNil))) δ S Q E = a δ S (fun x S1 => b δ S1 (fun y S2 => c δ S2 (fun z S3 => m [x, y, z] S3 (fun ys S' => Q (.lst ys) S')) E) E) E := by
  have e : ∀ (x y z : DV) (S3 : Store), (([x, y, z] : List DV).length = 3 ∧ m [x, y, z] S3 (fun ys S' => Q (.lst ys) S')) = m [x, y, z] S3 (fun ys S' => Q (.lst ys) S') := fun x y z S3 => by simp
  show a δ S (fun x S1 => b δ S1 (fun y S2 => c δ S2 (fun z S3 => (([x, y, z] : List DV).length = 3 ∧ m [x, y, z] S3 (fun ys S' => Q (.lst ys) S'))) E) E) E = _
  simp only [e]
theorem goodUp {g : Nat} {most : Int} {r : Rl} (h : GoodT g most r) (hm : most ≤ 4) : GoodT g 4 r := ⟨h.l1, h.l2, h.a1, h.a2, Int.le_trans h.s1 hm, Int.le_trans h.s2 hm⟩
theorem dk_setP {t p : Nat} {R S : Store} {d : Option DO} (D : Dk t R S) (h : 2 ≤ p) : ∃ R', Dk t R' (S.set p d) := by
  obtain ⟨cells, rests, rfl, h1, h2⟩ := D
  obtain ⟨p, rfl⟩ : ∃ k, p = k + 2 := ⟨p - 2, by omega⟩
  exact ⟨R.set p d, cells, rests, rfl, h1, h2⟩
theorem extend_R {p : Nat} {ds es : List DV} (h : S[p]? = some (some (.lst ds))) (hl : ds.length + es.length ≤ 16777216) (q : Q .non (S.set p (some (.lst (ds ++ es))))) : gExtend (.ref p) [.lst es] S Q :=
  ⟨p, ds, _, es, by show (match S[p]? with
      | some (some (DO.lst ds)) => some (p, ds)
      | _ => none) = _
                    rw [h], rfl, rfl, hl, q⟩
theorem lc_pr {k : Nat} {d0 d1 d2 d3 d4 d5 d6 d7 d10 : Option DV} {QL : MK (List DV)} : ∀ (L : List (List Int)) (acc : List DV), acc.length + L.length < 1000000 → QL (acc ++ L.map (pr k)) S →
    lcGo (.nm 9) mYes (mTup (mCons (mVar 8) (mCons (mVar 9) mNil))) [d0, d1, d2, d3, d4, d5, d6, d7, some (.int k), none, d10] (L.map fun x => DV.tup (intsV x)) acc S QL
  | [], acc, _, q => by
    have z : QL (acc ++ []) S := q
    rw [List.append_nil] at z
    exact z
  | x :: L, acc, hl, q => by
    rw [List.length_cons] at hl
    simp only [List.map_cons, lcGo_c, STEPS, true_and, List.map_cons, List.map_nil, List.length_cons, List.length_nil, List.cons_append, List.nil_append, List.set_cons_zero, List.set_cons_succ, List.replicate_zero, List.replicate_succ]
    refine ⟨by omega, lc_pr L _ (by simp; omega) ?_⟩
    rw [List.append_assoc]
    exact q
theorem due_go {p t : Nat} {Ls : List (List (List Int))} {d0 d2 d3 d4 d5 d10 : Option DV} (hp : 2 ≤ p) (hc : (Ls.map List.length).sum < 100000) : ∀ (m k : Nat) (d8 d9 : Option DV) (R S : Store), k + m = Ls.length → Dk t R S → S[p]? = some (some (.lst (prs 0 (Ls.take k)))) →
    (∀ d8 d9 R' S', Dk t R' S' → S'[p]? = some (some (.lst (prs 0 Ls))) → D.nx [d0, some (.ref 1), d2, d3, d4, d5, some (.ref p), some (.lst (Ls.map LS.ringV)), d8, d9, d10] S') →
    forGo (gTg (.nm 8)) f_law_1 D (rngD k m) [d0, some (.ref 1), d2, d3, d4, d5, some (.ref p), some (.lst (Ls.map LS.ringV)), d8, d9, d10] S
  | 0, k, d8, d9, R, S, hk, K, h, q => by
    rw [List.take_of_length_le (by omega)] at h
    exact q d8 d9 R S K h
  | m + 1, k, d8, d9, R, S, hk, K, h, q => by
    have hl : k < Ls.length := by omega
    rw [rngD]
    simp only [forGo_c, app3 f_law_1_e, STEPS, true_and, List.map_cons, List.map_nil, List.length_cons, List.length_nil, List.cons_append, List.nil_append, List.set_cons_zero, List.set_cons_succ, List.replicate_zero, List.replicate_succ]
    have ea : atI (Ls.map LS.ringV) (k : Int) = some (.lst (Ls[k].map fun x => DV.tup (intsV x))) := by
      rw [DL.atI_at, List.getElem?_map, List.getElem?_eq_getElem hl]
      rfl
    have tk : ∀ j, ((Ls.take j).map List.length).sum ≤ (Ls.map List.length).sum := fun j => by
      have e := List.take_append_drop j Ls
      have e2 : (Ls.map List.length).sum = ((Ls.take j).map List.length).sum + ((Ls.drop j).map List.length).sum := by rw [← List.sum_append, ← List.map_append, e]
      omega
    have e1 : Ls.take (k + 1) = Ls.take k ++ [Ls[k]] := by rw [List.take_add_one, List.getElem?_eq_getElem hl]; rfl
    have hk1 := tk (k + 1)
    rw [e1, List.map_append, List.sum_append] at hk1
    simp only [List.map_cons, List.map_nil, List.sum_cons, List.sum_nil] at hk1
    have lt : (prs 0 (Ls.take k)).length = ((Ls.take k).map List.length).sum := prs_len _ _
    refine ⟨LS.tyM_l h, ?_⟩
    rw [ea]
    simp only [STEPS, true_and, List.map_cons, List.map_nil, List.length_cons, List.length_nil, List.cons_append, List.nil_append, List.set_cons_zero, List.set_cons_succ, List.replicate_zero, List.replicate_succ]
    refine lc_pr Ls[k] [] (by simp; omega) ?_
    rw [List.nil_append]
    try simp only [STEPS, true_and, List.map_cons, List.map_nil, List.length_cons, List.length_nil, List.cons_append, List.nil_append, List.set_cons_zero, List.set_cons_succ, List.replicate_zero, List.replicate_succ]
    refine extend_R h (by rw [lt, List.length_map]; omega) ?_
    obtain ⟨R', K'⟩ := dk_setP (d := some (.lst (prs 0 (Ls.take k) ++ Ls[k].map (pr k)))) K hp
    have e2 : prs 0 (Ls.take (k + 1)) = prs 0 (Ls.take k) ++ Ls[k].map (pr k) := by
      rw [e1, prs_snoc, List.length_take, Nat.min_eq_left (by omega), Nat.zero_add]
    rw [show ((k : Int) + 1) = ((k + 1 : Nat) : Int) by omega]
    refine due_go hp hc m (k + 1) _ _ R' _ (by omega) K' ?_ q
    rw [List.getElem?_set_self (List.getElem?_eq_some_iff.mp h).1, e2]
theorem body_ok {t : Nat} {R S : Store} {d0 d2 d3 d4 d5 d6 d7 d8 d9 d10 : Option DV} (K : Dk t R S) (ht : t ≤ 50000)
    (next : ∀ δ' S' R' t', (∃ d0 d2 d3 d4 d5 d6 d7 d8 d9 d10, δ' = [d0, some (.ref 1), d2, d3, d4, d5, d6, d7, d8, d9, d10]) → Dk t' R' S' → t' ≤ t + 4000 → D.nx δ' S') : f_law_2 D [d0, some (.ref 1), d2, d3, d4, d5, d6, d7, d8, d9, d10] S := by
  simp only [app3 f_law_2_e, STEPS, true_and, List.map_cons, List.map_nil, List.length_cons, List.length_nil, List.cons_append, List.nil_append, List.set_cons_zero, List.set_cons_succ, List.replicate_zero, List.replicate_succ]
  refine any_market_ok K (by omega) fun S1 g ts R1 t1 D1 _ l1 hg gm => ?_
  have G : Gd g ts := fun r hr => ⟨(gm.all r hr).l1, (gm.all r hr).l2⟩
  have h4 : ∀ r ∈ ts, GoodT g 4 r := fun r hr => goodUp (gm.all r hr) (by split <;> omega)
  have hts : ts.length ≤ 4 := by
    have := gm.len
    split at this <;> omega
  have g1 := gm.g0
  simp only [app3 r_law_6_e, STEPS, true_and, List.map_cons, List.map_nil, List.length_cons, List.length_nil, List.cons_append, List.nil_append, List.set_cons_zero, List.set_cons_succ, List.replicate_zero, List.replicate_succ, mV, atI_1, LS.rsV_len]
  -- how many steps
  have go : ∀ (n : Nat) (S2 : Store) (d4 : Option DV) (t2 : Nat) (R2 : Store), d4 = some (.int n) → Dk t2 R2 S2 → t2 ≤ t1 + 1 → n ≤ 6 → (2 * ts.length + 1) ^ n ≤ 729 → r_law_5 D [d0, some (.ref 1), d2, some (mV g ts), d4, d5, d6, d7, d8, d9, d10] S2 := by
    intro n S2 d4 t2 R2 e4 D2 h2 hn hb
    subst e4
    simp only [app3 r_law_5_e, STEPS, true_and, List.map_cons, List.map_nil, List.length_cons, List.length_nil, List.cons_append, List.nil_append, List.set_cons_zero, List.set_cons_succ, List.replicate_zero, List.replicate_succ, mV, atI_0]
    refine bag_ok D2 (by omega) (by omega) (by omega) (by omega) fun S3 row D3 lr ir => ?_
    have h6 : ∀ y ∈ row, y.natAbs ≤ 6 := fun y hy => by have := ir y hy; omega
    obtain ⟨f1, f2, f3⟩ := rg_few ts row n
    have hc : ((rgP ts row n).1.map List.length).sum ≤ 729 := by omega
    obtain ⟨z1, z2⟩ := rg_sml G h4 hg lr h6 hn hts g1
    obtain ⟨P, hP1, hP2⟩ := prs_repr (Ls := (rgP ts row n).1) (by omega) (by omega) z2
    try simp only [STEPS, true_and, List.map_cons, List.map_nil, List.length_cons, List.length_nil, List.cons_append, List.nil_append, List.set_cons_zero, List.set_cons_succ, List.replicate_zero, List.replicate_succ]
    have D4 := dk_snoc (d := .lst []) D3
    have l3 := dk_len D3
    have p4 : (S3 ++ [some (DO.lst [])])[S3.length]? = some (some (.lst [])) := by simp
    obtain ⟨p, hp⟩ : ∃ p, p = S3.length := ⟨_, rfl⟩
    rw [← hp] at p4 ⊢
    have hp2 : 2 ≤ p := by omega
    generalize S3 ++ [some (DO.lst [])] = S4 at D4 p4 ⊢
    simp only [app3 r_law_4_e, STEPS, true_and, List.map_cons, List.map_nil, List.length_cons, List.length_nil, List.cons_append, List.nil_append, List.set_cons_zero, List.set_cons_succ, List.replicate_zero, List.replicate_succ, atI_1]
    refine lrings_ok G g1 (by omega) lr hts hn fun S5 F5 => ?_
    obtain ⟨R5, D5⟩ := dk_fo D4 F5
    have p5 : S5[p]? = some (some (.lst [])) := F5.get (by simp) p4
    simp only [app3 r_law_3_e, STEPS, true_and, List.map_cons, List.map_nil, List.length_cons, List.length_nil, List.cons_append, List.nil_append, List.set_cons_zero, List.set_cons_succ, List.replicate_zero, List.replicate_succ, List.length_map]
    refine ⟨by omega, by omega, ?_⟩
    rw [Int.toNat_natCast]
    refine due_go hp2 (by omega) _ 0 _ _ R5 S5 (by omega) D5 (by rw [List.take_zero]; exact p5) fun d8 d9 R6 S6 D6 p6 => ?_
    show r_law_2 D _ _
    simp only [app3 r_law_2_e, STEPS, true_and, List.map_cons, List.map_nil, List.length_cons, List.length_nil, List.cons_append, List.nil_append, List.set_cons_zero, List.set_cons_succ, List.replicate_zero, List.replicate_succ, mListG_3]
    refine near_ok G g1 (by omega) lr hts hn (by omega) fun S7 F7 => ?_
    have F7' : LB.Fo [] S6 S7 := F7
    obtain ⟨R7, D7⟩ := dk_fo D6 F7'
    have p7 : S7[p]? = some (some (.lst (prs 0 (rgP ts row n).1))) := F7'.get (by simp) p6
    refine gRepr_d hP1 hP2 ?_
    simp only [STEPS, true_and, List.map_cons, List.map_nil, List.length_cons, List.length_nil, List.cons_append, List.nil_append, List.set_cons_zero, List.set_cons_succ, List.replicate_zero, List.replicate_succ, LS.mFz_e]
    refine ⟨p, _, rfl, p7, ?_⟩
    refine gRepr_d hP1 hP2 ?_
    simp only [STEPS, true_and, decide_true, Bool.not_true]
    obtain ⟨R8, D8⟩ := dk_setP (d := none) D7 hp2
    generalize S7.set p none = S8 at D8 ⊢
    simp only [app3 r_law_1_e, STEPS, true_and, List.map_cons, List.map_nil, List.length_cons, List.length_nil, List.cons_append, List.nil_append, List.set_cons_zero, List.set_cons_succ, List.replicate_zero, List.replicate_succ, mListG_3]
    refine near_ok (n := 0) G g1 (by omega) lr hts (by omega) (by simp [rgP, LS.rgP]) fun S9 F9 => ?_
    have F9' : LB.Fo [] S8 S9 := F9
    obtain ⟨R9, D9⟩ := dk_fo D8 F9'
    obtain ⟨P0, hP3, hP4⟩ := prs_repr (Ls := [[row]]) (by simp) (by simp) (fun L hL x hx => by
      have e1 : L = [row] := by simpa using hL
      subst e1
      have e2 : x = row := by simpa using hx
      subst e2
      exact ⟨by omega, fun y hy => by have := h6 y hy; omega⟩)
    have e0 : prs 0 (rgP ts row 0).1 = [.tup [.int 0, .tup (intsV row)]] := rfl
    have e1 : prs 0 [[row]] = [.tup [.int 0, .tup (intsV row)]] := rfl
    rw [e0]
    rw [e1] at hP3
    refine gRepr_d hP3 hP4 ?_
    try simp only [STEPS, true_and, List.map_cons, List.map_nil, List.length_cons, List.length_nil, List.cons_append, List.nil_append, List.set_cons_zero, List.set_cons_succ, List.replicate_zero, List.replicate_succ]
    refine gRepr_d hP3 hP4 ?_
    simp only [STEPS, true_and, decide_true, Bool.not_true]
    exact next _ _ _ _ ⟨_, _, _, _, _, _, _, _, _, _, rfl⟩ D9 (by omega)
  by_cases c : (ts.length : Int) < 2
  · simp only [decide_eq_true c, STEPS, true_and]
    refine draw_ok D1 (by omega) (by omega) (by omega) fun S2 n D2 hn0 hn1 => ?_
    obtain ⟨n, rfl⟩ := Int.eq_ofNat_of_zero_le hn0
    refine go n S2 _ _ _ rfl D2 (by omega) (by omega) ?_
    exact Nat.le_trans (Nat.pow_le_pow_left (show 2 * ts.length + 1 ≤ 3 by omega) n) (Nat.le_trans (Nat.pow_le_pow_right (by decide) (show n ≤ 6 by omega)) (by decide))
  · simp only [decide_eq_false c, STEPS, true_and]
    refine draw_ok D1 (by omega) (by omega) (by omega) fun S2 n D2 hn0 hn1 => ?_
    obtain ⟨n, rfl⟩ := Int.eq_ofNat_of_zero_le hn0
    refine go n S2 _ _ _ rfl D2 (by omega) (by omega) ?_
    exact Nat.le_trans (Nat.pow_le_pow_left (show 2 * ts.length + 1 ≤ 9 by omega) n) (Nat.le_trans (Nat.pow_le_pow_right (by decide) (show n ≤ 3 by omega)) (by decide))
theorem law_ok : LawG 63 m_law := by
  intro ns hn _
  simp only [app4 m_law_e, app3 b_law_e, STEPS, true_and, List.map_cons, List.map_nil, List.length_cons, List.length_nil, List.cons_append, List.nil_append, List.set_cons_zero, List.set_cons_succ, List.replicate_zero, List.replicate_succ]
  refine deck_ok hn fun S0 D0 => ?_
  simp only [app3 r_law_8_e, STEPS, true_and, List.map_cons, List.map_nil, List.length_cons, List.length_nil, List.cons_append, List.nil_append, List.set_cons_zero, List.set_cons_succ, List.replicate_zero, List.replicate_succ]
  refine ⟨by decide, by decide, ?_⟩
  refine forGo_ind (fun xs δ S => (∃ d0 d2 d3 d4 d5 d6 d7 d8 d9 d10, δ = [d0, some (.ref 1), d2, d3, d4, d5, d6, d7, d8, d9, d10]) ∧ ∃ t R, Dk t R S ∧ t + 4000 * xs.length ≤ 24000) ?hn ?hs _ _ _ ⟨⟨_, _, _, _, _, _, _, _, _, _, rfl⟩, 0, [], D0, by rw [rngD_len]; decide⟩
  case hn =>
    rintro δ S ⟨⟨d0, d2, d3, d4, d5, d6, d7, d8, d9, d10, rfl⟩, t, R, D, ht⟩
    simp only [app3 r_law_7_e, STEPS, true_and, List.map_cons, List.map_nil, List.length_cons, List.length_nil, List.cons_append, List.nil_append, List.set_cons_zero, List.set_cons_succ, List.replicate_zero, List.replicate_succ]
  case hs =>
    rintro x xs δ S ⟨⟨d0, d2, d3, d4, d5, d6, d7, d8, d9, d10, rfl⟩, t, R, D, ht⟩ ih
    rw [List.length_cons] at ht
    simp only [forGo_c, STEPS, true_and, List.map_cons, List.map_nil, List.length_cons, List.length_nil, List.cons_append, List.nil_append, List.set_cons_zero, List.set_cons_succ, List.replicate_zero, List.replicate_succ]
    exact body_ok D (by omega) fun δ' S' R' t' e D' h => ih _ _ ⟨e, t', R', D', by omega⟩
end
end G_k03
open PySem PySem.W PySem.Calls PyProof.Rows
theorem holds_of (hm : DL.LawG 63 G_k03.m_law) : PySem.Challenge.rw_lentbeside_k03_what_is_near.Holds := by
  w_on; o_law
  refine HandSHeadRun.head_any (r := OpenLaw.row PySem.Challenge.rw_lentbeside_k03_what_is_near) (q := view (OpenLaw.row PySem.Challenge.rw_lentbeside_k03_what_is_near).prog [24]) (H := G_k03.hk) (ob := G_k03.ob) (M := 4000) (loose := G_k03.loose) (d := HandSHeadRun.topDef (OpenLaw.row PySem.Challenge.rw_lentbeside_k03_what_is_near).prog 24) (kwd := []) G_k03.ob_eq
    (by kernel_rfl) (fun s => by kernel_rfl) G_k03.run (by kernel_rfl) (by kernel_rfl) (by kernel_rfl) (by rfl) (by first | assumption | decide +kernel) (by decide +kernel) ⟨rfl, rfl, rfl, rfl, rfl, by decide +kernel⟩ ?hw ?hc
  case hw => w_witness2
  case hc =>
    refine DL.walk_ofD (l := PySem.Challenge.rw_lentbeside_k03_what_is_near) (n := 63) (k := 8) (x := "_law_script") (CX := L2.CX0) rfl (by decide) (by kernel_rfl) ⟨rfl, by decide, by decide⟩ hm ?F (fun _ _ _ _ z => z)
    intro w mg fa h Y G hmg0
    obtain ⟨K, KX, c, hT⟩ := Y
    have hmg : mg ("law" : PySem.Str) = some (.ref fa) := by
      have e : (HandSHeadRun.topDef (OpenLaw.row PySem.Challenge.rw_lentbeside_k03_what_is_near).prog 24).name = ("law" : PySem.Str) := by kernel_rfl
      rw [← e]
      exact hmg0
    have z := G_k03.z_of KX G c
    obtain ⟨f, fd, hm2, F⟩ := z.fn_law
    rw [hmg] at hm2
    cases hm2
    have b := L2.FunD.bindsA (ps := ["_law_script"]) F fun _ _ _ _ _ _ us hl => match us, hl with | [_], _ => rfl
    refine ⟨K, fd, KX, hT, fun s v => b s [v] rfl, fun base KIn _ TB => ?_⟩
    exact (G_k03.ok_law F ⟨z, KIn, TB⟩)
theorem PySem.Challenge.cw_lentbeside_k03_what_is_near_holds : PySem.Challenge.rw_lentbeside_k03_what_is_near.Holds := by
  exact holds_of G_k03.law_ok
